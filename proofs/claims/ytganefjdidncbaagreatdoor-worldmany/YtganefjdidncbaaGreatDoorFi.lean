/- This text proves no statement of the seat: it says what functions of the program do on the ideal machine, part 8. By program (emitall.py). -/
import Derived.Test.YtganefjdidncbaaGreatDoorFh
namespace Go.Ideal
open Go.Proofs
set_option maxRecDepth 100000
set_option linter.unusedVariables false
/-- (besom/besomref15.State).Copy -/
def B88 (N : Nat) (lim : Nat) (s0 : Value) (H : IHeap) : RV :=
 retK ((cellsOf true 2 s0).bind fun cs1 =>
 (iload false 1 cs1 0).bind fun t4 =>
 rowK (hrow 3 H t4) fun m1 new1 =>
 callK (iappend false 3 16 lim H (.slice none 0 0) m1 new1) fun t5 H1 =>
 (iload false 1 cs1 1).bind fun t7 =>
 rowK (hrow 5 H1 t7) fun m2 new2 =>
 callK (iappend false 5 32 lim H1 (.slice none 0 0) m2 new2) fun t8 H2 =>
 (istore false 1 [(.slice none 0 0), (.slice none 0 0)] 0 t5).bind fun cs2 =>
 (istore false 1 cs2 1 t8).bind fun cs3 =>
 (istore true 2 [(.slice none 0 0), (.slice none 0 0)] 0 (.agg ⟨cs3⟩)).bind fun cs4 =>
 (iload true 2 cs4 0).bind fun r1 =>
 some (.ret r1, H2))
def F88 (N lim : Nat) (a0 : Value) (H : IHeap) : RV := B88 N lim a0 H
def G88 (N : Nat) : G := w1 (F88 N)
theorem eq88 (N : Nat) (lim : Nat) (a0 : Value) (H : IHeap) : ifun Tryz.prog { fn := envOf [], wr := [] } { promo := [1, 2], share := false } N (okOf Tryz.prog { promo := [1, 2], share := false } []) Tryz.f88 (.seq (.region []) (.seq (.region []) .leaf)) lim [a0] H = B88 N lim a0 H := by kernel_rfl
theorem sim88 (N : Nat) : SimF Tryz.prog 88 (G88 N) := by
  refine SimF.gen [] [] { promo := [1, 2], share := false } N (.seq (.region []) (.seq (.region []) .leaf)) Tryz.func88 (by kernel_rfl) (by kernel_rfl) env_nil ?_
  intro lim args H r h
  unfold G88 w1 at h
  split at h
  · exact (eq88 N lim _ H).trans h
  · simp at h
/-- (besom/besomref15.State).Enter -/
def B35 (N : Nat) (g88 : RF1) (lim : Nat) (s0 : Value) (H : IHeap) : RV :=
 retK ((cellsOf true 2 s0).bind fun cs1 =>
 (iload true 2 cs1 0).bind fun t4 =>
 callK (g88 lim t4 H) fun t5 H1 =>
 (istore true 2 [(.slice none 0 0), (.slice none 0 0)] 0 t5).bind fun cs2 =>
 (iload false 1 cs2 0).bind fun t7 =>
 (istore true 3 [(.bool false), (.bool false), (.int .i64 0)] 0 (.agg ⟨[(.bool false), (.bool false), (.int .i64 0)]⟩)).bind fun cs3 =>
 rowK (lrow 3 1 cs3) fun m1 new1 =>
 callK (iappend false 3 16 lim H1 t7 m1 new1) fun t10 H2 =>
 (istore false 1 cs2 0 t10).bind fun cs4 =>
 (iload true 2 cs4 0).bind fun t12 =>
 (istore true 2 [(.slice none 0 0), (.slice none 0 0)] 0 t12).bind fun cs5 =>
 (iload true 2 cs5 0).bind fun r1 =>
 some (.ret r1, H2))
def F35 (N lim : Nat) (a0 : Value) (H : IHeap) : RV := B35 N (F88 N) lim a0 H
def G35 (N : Nat) : G := w1 (F35 N)
theorem eq35 (N : Nat) (g88 : RF1) (lim : Nat) (a0 : Value) (H : IHeap) : ifun Tryz.prog { fn := envOf [(88, Ideal.w1 g88)], wr := [] } { promo := [1, 2, 3, 9], share := false } N (okOf Tryz.prog { promo := [1, 2, 3, 9], share := false } []) Tryz.f35 (.seq (.region []) (.seq (.region []) (.seq (.region []) (.seq (.region []) .leaf)))) lim [a0] H = B35 N g88 lim a0 H := by kernel_rfl
theorem sim35 (N : Nat) : SimF Tryz.prog 35 (G35 N) := by
  refine SimF.gen [(88, G88 N)] [] { promo := [1, 2, 3, 9], share := false } N (.seq (.region []) (.seq (.region []) (.seq (.region []) (.seq (.region []) .leaf)))) Tryz.func35 (by kernel_rfl) (by kernel_rfl) (env_cons (sim88 N) env_nil) ?_
  intro lim args H r h
  unfold G35 w1 at h
  split at h
  · exact (eq35 N (F88 N) lim _ H).trans h
  · simp at h
/-- (*besom/besomref15.Machine).enter -/
def B36 (N : Nat) (g34 : RF2) (g87 : RF2) (lim : Nat) (m0 t1 fn2 args3 ret4 : Value) (H : IHeap) : RV :=
 retK ((inilc t1).bind fun t14 =>
 (paddr 0 t14).bind fun t15 =>
 (hload false 1 H t15).bind fun t16 =>
 (ilenS t16).bind fun t17 =>
 (ibin .gtr .no t17 (.int .i64 0)).bind fun t18 =>
 joinK (boolK t18 fun b1 => bif b1 then
 ((inilc t1).bind fun t20 =>
 (paddr 0 t20).bind fun t21 =>
 (hload false 1 H t21).bind fun t22 =>
 (inilc t1).bind fun t24 =>
 (paddr 0 t24).bind fun t25 =>
 (hload false 1 H t25).bind fun t26 =>
 (ilenS t26).bind fun t27 =>
 (ibin .sub .no t27 (.int .i64 1)).bind fun t28 =>
 (iidx 9 t22 t28).bind fun t29 =>
 (hload true 9 H t29).bind fun t30 =>
 (istore true 9 [(.int .i64 0), (.int .i64 0), (.int .i64 0), (.int .i64 0), (.slice none 0 0), (.slice none 0 0), (.slice none 0 0), (.int .i64 0), (.bool false)] 0 t30).bind fun cs1 =>
 (iload false 1 cs1 2).bind fun t32 =>
 (inilc m0).bind fun t34 =>
 (paddr 0 t34).bind fun t35 =>
 (hload true 3 H t35).bind fun t36 =>
 (iload false 1 cs1 0).bind fun t38 =>
 callK (g34 lim t36 t38 H) fun t39 H1 =>
 (ibin .add .no t32 t39).bind fun t40 =>
 some (.norm ([t40] ++ []), H1))
 else
 some (.norm ([(.int .i64 0)] ++ []), H)) fun vs1 H2 =>
 (inilc m0).bind fun t45 =>
 (paddr 0 t45).bind fun t46 =>
 (paddr 2 t46).bind fun t47 =>
 (hload false 1 H2 t47).bind fun t48 =>
 (iidx 5 t48 fn2).bind fun t50 =>
 (paddr 2 t50).bind fun t51 =>
 (hload false 1 H2 t51).bind fun t52 =>
 callK (imake 8 [(.int .i64 0)] H2 t52 t52) fun t53 H3 =>
 (inilc m0).bind fun t55 =>
 (paddr 0 t55).bind fun t56 =>
 (paddr 1 t56).bind fun t57 =>
 (hload false 1 H3 t57).bind fun t58 =>
 (inilc m0).bind fun t60 =>
 (paddr 0 t60).bind fun t61 =>
 (paddr 2 t61).bind fun t62 =>
 (hload false 1 H3 t62).bind fun t63 =>
 (iidx 5 t63 fn2).bind fun t65 =>
 (paddr 3 t65).bind fun t66 =>
 (hload false 1 H3 t66).bind fun t67 =>
 callK (g87 H3.next t58 t67 H3) fun t68 H4 =>
 callK (imake 8 [(.int .i64 0)] H4 t68 t68) fun t69 H5 =>
 (istore false 1 [(.int .i64 0), (.int .i64 0), (.int .i64 0), (.int .i64 0), (.slice none 0 0), (.slice none 0 0), (.slice none 0 0), (.int .i64 0), (.bool false)] 0 fn2).bind fun cs2 =>
 (istore false 1 cs2 2 (nthV 0 vs1)).bind fun cs3 =>
 (istore false 1 cs3 3 ret4).bind fun cs4 =>
 (istore false 1 cs4 4 t53).bind fun cs5 =>
 (istore false 1 cs5 5 t69).bind fun cs6 =>
 (istore true 9 [(.int .i64 0), (.int .i64 0), (.int .i64 0), (.int .i64 0), (.slice none 0 0), (.slice none 0 0), (.slice none 0 0), (.int .i64 0), (.bool false)] 0 (.agg ⟨cs6⟩)).bind fun cs7 =>
 (iload false 1 cs7 4).bind fun t72 =>
 rowK (hrow 1 H5 args3) fun m1 new1 =>
 callK (icopy 1 lim H5 t72 m1 new1) fun t74 H6 =>
 (inilc t1).bind fun t77 =>
 (paddr 0 t77).bind fun t78 =>
 (hload false 1 H6 t78).bind fun t79 =>
 (iload true 9 cs7 0).bind fun t80 =>
 (istore true 9 [(.int .i64 0), (.int .i64 0), (.int .i64 0), (.int .i64 0), (.slice none 0 0), (.slice none 0 0), (.slice none 0 0), (.int .i64 0), (.bool false)] 0 t80).bind fun cs8 =>
 rowK (lrow 9 1 cs8) fun m2 new2 =>
 callK (iappend false 9 120 lim H6 t79 m2 new2) fun t82 H7 =>
 (inilc t1).bind fun t83 =>
 (paddr 0 t83).bind fun t84 =>
 (hstore false 1 lim H7 t84 t82).bind fun H8 =>
 some (.ret (.tuple ⟨[]⟩), H8))
def F36 (N lim : Nat) (a0 a1 a2 a3 a4 : Value) (H : IHeap) : RV := B36 N (F34 N) (F87 N) lim a0 a1 a2 a3 a4 H
def G36 (N : Nat) : G := w5 (F36 N)
theorem eq36 (N : Nat) (g34 : RF2) (g87 : RF2) (lim : Nat) (a0 a1 a2 a3 a4 : Value) (H : IHeap) : ifun Tryz.prog { fn := envOf [(34, Ideal.w2 g34), (87, Ideal.w2 g87)], wr := [34] } { promo := [11, 12, 81], share := false } N (okOf Tryz.prog { promo := [11, 12, 81], share := false } [34]) Tryz.f36 (.seq (.region []) (.seq (.seq (.region []) (.join [10] [] [11] (.seq (.region []) (.region [])) .leaf)) (.seq (.region []) (.seq (.region []) (.region []))))) lim [a0, a1, a2, a3, a4] H = B36 N g34 g87 lim a0 a1 a2 a3 a4 H := by kernel_rfl
theorem sim36 (N : Nat) : SimF Tryz.prog 36 (G36 N) := by
  refine SimF.gen [(34, G34 N), (87, G87 N)] [34] { promo := [11, 12, 81], share := false } N (.seq (.region []) (.seq (.seq (.region []) (.join [10] [] [11] (.seq (.region []) (.region [])) .leaf)) (.seq (.region []) (.seq (.region []) (.region []))))) Tryz.func36 (by kernel_rfl) (by kernel_rfl) (env_cons (sim34 N) (env_cons (sim87 N) env_nil)) ?_
  intro lim args H r h
  unfold G36 w5 at h
  split at h
  · exact (eq36 N (F34 N) (F87 N) lim _ _ _ _ _ H).trans h
  · simp at h
/-- besom/besomref15.New -/
def B14 (N : Nat) (g34 : RF2) (g35 : RF1) (g36 : RF5) (lim : Nat) (p0 maps1 limit2 : Value) (H : IHeap) : RV :=
 retK ((cellsOf true 3 p0).bind fun cs1 =>
 (iload true 3 cs1 0).bind fun t9 =>
 (iload false 1 cs1 0).bind fun t13 =>
 (ilenS t13).bind fun t14 =>
 callK (imake 8 [(.int .i64 0)] H t14 t14) fun t15 H1 =>
 (istore true 3 [(.slice none 0 0), (.slice none 0 0), (.slice none 0 0), (.slice none 0 0), (.int .i64 0), (.slice none 0 0), (.slice none 0 0), (.slice none 0 0), (.slice none 0 0), (.int .i64 0), (.int .i64 0)] 0 t9).bind fun cs2 =>
 (istore false 1 cs2 3 maps1).bind fun cs3 =>
 (istore false 1 cs3 4 limit2).bind fun cs4 =>
 (istore false 1 cs4 6 t15).bind fun cs5 =>
 (cellsOf true 11 (.agg ⟨cs5⟩)).bind fun cs6 =>
 (iload true 3 cs1 0).bind fun t18 =>
 callK (g34 lim t18 (.int .i64 0) (H1.push (.cells cs6 0))) fun t19 H2 =>
 (ibin .gtr .no t19 limit2).bind fun t21 =>
 (boolK t21 fun b1 => bif b1 then
 (some (.ret (.pointer none), H2))
 else
 callK (g35 lim (.agg ⟨[(.slice none 0 0), (.slice none 0 0)]⟩) H2) fun t23 H3 =>
 (istore true 2 [(.slice none 0 0), (.slice none 0 0), (.slice none 0 0), (.bool false)] 1 t23).bind fun cs7 =>
 (hstore true 4 lim (H3.push (.cells [(.slice none 0 0), (.slice none 0 0), (.slice none 0 0), (.bool false)] 0)) (ptr H3.next 0) (.agg ⟨cs7⟩)).bind fun H4 =>
 callK (g36 lim (ptr H1.next 0) (ptr H3.next 0) (.int .i64 0) (.slice none 0 0) (.int .i64 (-1)) H4) fun t26 H5 =>
 (hload true 4 H5 (ptr H3.next 0)).bind fun t28 =>
 (istore true 4 [(.slice none 0 0), (.slice none 0 0), (.slice none 0 0), (.bool false)] 0 t28).bind fun cs8 =>
 (inilc (ptr H1.next 0)).bind fun t30 =>
 (paddr 5 t30).bind fun t31 =>
 (hstore false 1 lim (H5.push (.cells cs8 0)) t31 (slc 4 H5.next 0 1 2)).bind fun H6 =>
 some (.ret (ptr H1.next 0), H6)))
def F14 (N lim : Nat) (a0 a1 a2 : Value) (H : IHeap) : RV := B14 N (F34 N) (F35 N) (F36 N) lim a0 a1 a2 H
def G14 (N : Nat) : G := w3 (F14 N)
theorem eq14 (N : Nat) (g34 : RF2) (g35 : RF1) (g36 : RF5) (lim : Nat) (a0 a1 a2 : Value) (H : IHeap) : ifun Tryz.prog { fn := envOf [(34, Ideal.w2 g34), (35, Ideal.w1 g35), (36, Ideal.w5 g36)], wr := [] } { promo := [3], share := false } N (okOf Tryz.prog { promo := [3], share := false } []) Tryz.f14 (.seq (.region []) (.seq (.region []) (.seq (.seq (.region []) (.inl (.seq (.region []) .leaf) .leaf)) (.seq (.region []) (.seq (.region []) (.seq (.region []) (.seq (.region []) .leaf))))))) lim [a0, a1, a2] H = B14 N g34 g35 g36 lim a0 a1 a2 H := by kernel_rfl
theorem sim14 (N : Nat) : SimF Tryz.prog 14 (G14 N) := by
  refine SimF.gen [(34, G34 N), (35, G35 N), (36, G36 N)] [] { promo := [3], share := false } N (.seq (.region []) (.seq (.region []) (.seq (.seq (.region []) (.inl (.seq (.region []) .leaf) .leaf)) (.seq (.region []) (.seq (.region []) (.seq (.region []) (.seq (.region []) .leaf))))))) Tryz.func14 (by kernel_rfl) (by kernel_rfl) (env_cons (sim34 N) (env_cons (sim35 N) (env_cons (sim36 N) env_nil))) ?_
  intro lim args H r h
  unfold G14 w3 at h
  split at h
  · exact (eq14 N (F34 N) (F35 N) (F36 N) lim _ _ _ H).trans h
  · simp at h
/-- besom/besomlaw24.Pair -/
def B5 (N : Nat) (g10 : RF2) (g12 : RF1) (g13 : RF1) (g14 : RF3) (lim : Nat) (p0 c1 : Value) (H : IHeap) : RV :=
 retK ((cellsOf true 3 p0).bind fun cs1 =>
 (cellsOf true 5 c1).bind fun cs2 =>
 (iload true 3 cs1 0).bind fun t16 =>
 (iload true 5 cs2 0).bind fun t17 =>
 callK (g10 lim t16 t17 H) fun t18 H1 =>
 (iextract 0 t18).bind fun t19 =>
 (iextract 1 t18).bind fun t20 =>
 (iextract 2 t18).bind fun t21 =>
 (istore true 2 [(.int .i64 0), (.int .i64 0)] 0 t21).bind fun cs3 =>
 (iload true 5 cs2 0).bind fun t22 =>
 callK (g12 lim t22 H1) fun t23 H2 =>
 (iun .not t23).bind fun t24 =>
 (boolK t24 fun b1 => bif b1 then
 ((ibin .eql .ptr t19 (.pointer none)).bind fun t26 =>
 (gval true t26).bind fun w1 => grpK (bif w1 then
 ((ibin .eql .no t20 (.int .i64 1)).bind fun t29 =>
 some ([t29], H2))
 else some ([Value.tuple #[]], H2)) fun vs1 H3 =>
 (pickK t26 (nthV 0 vs1) (.bool false)).bind fun t30 =>
 (gval true t30).bind fun w2 => grpK (bif w2 then
 ((iload true 2 cs3 0).bind fun t32 =>
 (ibin .eql (.flat [false, false]) t32 (.agg ⟨[(.int .i64 0), (.int .i64 0)]⟩)).bind fun t34 =>
 some ([t34], H3))
 else some ([Value.tuple #[]], H3)) fun vs2 H4 =>
 (pickK t30 (nthV 0 vs2) (.bool false)).bind fun t35 =>
 some (.ret (.tuple ⟨[(.pointer none), (.pointer none), t35]⟩), H4))
 else
 (iload true 3 cs1 0).bind fun t37 =>
 callK (g13 lim t37 H2) fun t38 H5 =>
 (iextract 0 t38).bind fun t39 =>
 (iextract 1 t38).bind fun t40 =>
 (iextract 2 t38).bind fun t41 =>
 (iextract 3 t38).bind fun t42 =>
 (ibin .neq .no t40 (.int .i64 0)).bind fun t44 =>
 (boolK t44 fun b4 => bif b4 then
 ((ibin .eql .ptr t19 (.pointer none)).bind fun t46 =>
 (gval true t46).bind fun w3 => grpK (bif w3 then
 ((ibin .eql .no t20 t40).bind fun t50 =>
 some ([t50], H5))
 else some ([Value.tuple #[]], H5)) fun vs3 H6 =>
 (pickK t46 (nthV 0 vs3) (.bool false)).bind fun t51 =>
 (gval true t51).bind fun w4 => grpK (bif w4 then
 ((iload true 2 cs3 0).bind fun t53 =>
 (istore false 1 [(.int .i64 0), (.int .i64 0)] 0 t41).bind fun cs4 =>
 (istore false 1 cs4 1 t42).bind fun cs5 =>
 (ibin .eql (.flat [false, false]) t53 (.agg ⟨cs5⟩)).bind fun t57 =>
 some ([t57], H6))
 else some ([Value.tuple #[]], H6)) fun vs4 H7 =>
 (pickK t51 (nthV 0 vs4) (.bool false)).bind fun t58 =>
 some (.ret (.tuple ⟨[(.pointer none), (.pointer none), t58]⟩), H7))
 else
 (iload true 3 cs1 0).bind fun t59 =>
 (iload false 1 cs2 2).bind fun t62 =>
 callK (g14 lim t59 t39 t62 H5) fun t63 H8 =>
 (ibin .eql .ptr t63 (.pointer none)).bind fun t65 =>
 (boolK t65 fun b7 => bif b7 then
 ((ibin .eql .ptr t19 (.pointer none)).bind fun t67 =>
 (gval true t67).bind fun w5 => grpK (bif w5 then
 ((ibin .eql .no t20 (.int .i64 5)).bind fun t70 =>
 some ([t70], H8))
 else some ([Value.tuple #[]], H8)) fun vs5 H9 =>
 (pickK t67 (nthV 0 vs5) (.bool false)).bind fun t71 =>
 some (.ret (.tuple ⟨[(.pointer none), (.pointer none), t71]⟩), H9))
 else
 (ibin .neq .ptr t19 (.pointer none)).bind fun t75 =>
 (gval true t75).bind fun w6 => grpK (bif w6 then
 ((ibin .eql .no t20 (.int .i64 0)).bind fun t78 =>
 some ([t78], H8))
 else some ([Value.tuple #[]], H8)) fun vs6 H10 =>
 (pickK t75 (nthV 0 vs6) (.bool false)).bind fun t79 =>
 (gval true t79).bind fun w7 => grpK (bif w7 then
 ((iload true 2 cs3 0).bind fun t81 =>
 (ibin .eql (.flat [false, false]) t81 (.agg ⟨[(.int .i64 0), (.int .i64 0)]⟩)).bind fun t83 =>
 some ([t83], H10))
 else some ([Value.tuple #[]], H10)) fun vs7 H11 =>
 (pickK t79 (nthV 0 vs7) (.bool false)).bind fun t84 =>
 some (.ret (.tuple ⟨[t19, t63, t84]⟩), H11)))))
def F5 (N lim : Nat) (a0 a1 : Value) (H : IHeap) : RV := B5 N (F10 N) (F12 N) (F13 N) (F14 N) lim a0 a1 H
def G5 (N : Nat) : G := w2 (F5 N)
theorem eq5 (N : Nat) (g10 : RF2) (g12 : RF1) (g13 : RF1) (g14 : RF3) (lim : Nat) (a0 a1 : Value) (H : IHeap) : ifun Tryz.prog { fn := envOf [(10, Ideal.w2 g10), (12, Ideal.w1 g12), (13, Ideal.w1 g13), (14, Ideal.w3 g14)], wr := [] } { promo := [2, 3, 9], share := false } N (okOf Tryz.prog { promo := [2, 3, 9], share := false } []) Tryz.f5 (.seq (.region []) (.seq (.region []) (.seq (.seq (.region []) (.inl (.seq (.region [[29], [34]]) .leaf) .leaf)) (.seq (.region []) (.seq (.seq (.region []) (.inl (.seq (.region [[50], [57]]) .leaf) .leaf)) (.seq (.region []) (.seq (.seq (.region []) (.inl (.seq (.region [[70]]) .leaf) .leaf)) (.seq (.region [[78], [83]]) .leaf)))))))) lim [a0, a1] H = B5 N g10 g12 g13 g14 lim a0 a1 H := by kernel_rfl
theorem sim5 (N : Nat) : SimF Tryz.prog 5 (G5 N) := by
  refine SimF.gen [(10, G10 N), (12, G12 N), (13, G13 N), (14, G14 N)] [] { promo := [2, 3, 9], share := false } N (.seq (.region []) (.seq (.region []) (.seq (.seq (.region []) (.inl (.seq (.region [[29], [34]]) .leaf) .leaf)) (.seq (.region []) (.seq (.seq (.region []) (.inl (.seq (.region [[50], [57]]) .leaf) .leaf)) (.seq (.region []) (.seq (.seq (.region []) (.inl (.seq (.region [[70]]) .leaf) .leaf)) (.seq (.region [[78], [83]]) .leaf)))))))) Tryz.func5 (by kernel_rfl) (by kernel_rfl) (env_cons (sim10 N) (env_cons (sim12 N) (env_cons (sim13 N) (env_cons (sim14 N) env_nil)))) ?_
  intro lim args H r h
  unfold G5 w2 at h
  split at h
  · exact (eq5 N (F10 N) (F12 N) (F13 N) (F14 N) lim _ _ H).trans h
  · simp at h
/-- (*besom/heap.Heap).none -/
def B66 (N : Nat) (lim : Nat) (h0 : Value) (H : IHeap) : RV :=
 retK ((ibin .eql .ptr h0 (.pointer none)).bind fun t4 =>
 (gval false t4).bind fun w1 => grpK (bif w1 then
 ((inilc h0).bind fun t7 =>
 (paddr 0 t7).bind fun t8 =>
 (hload false 1 H t8).bind fun t9 =>
 (ibin .eql .ptr t9 (.pointer none)).bind fun t10 =>
 some ([t10], H))
 else some ([Value.tuple #[]], H)) fun vs1 H1 =>
 (pickK t4 (.bool true) (nthV 0 vs1)).bind fun t11 =>
 some (.ret t11, H1))
def F66 (N lim : Nat) (a0 : Value) (H : IHeap) : RV := B66 N lim a0 H
def G66 (N : Nat) : G := w1 (F66 N)
theorem eq66 (N : Nat) (lim : Nat) (a0 : Value) (H : IHeap) : ifun Tryz.prog { fn := envOf [], wr := [] } { promo := [], share := false } N (okOf Tryz.prog { promo := [], share := false } []) Tryz.f66 (.seq (.region []) (.seq (.region [[10]]) .leaf)) lim [a0] H = B66 N lim a0 H := by kernel_rfl
theorem sim66 (N : Nat) : SimF Tryz.prog 66 (G66 N) := by
  refine SimF.gen [] [] { promo := [], share := false } N (.seq (.region []) (.seq (.region [[10]]) .leaf)) Tryz.func66 (by kernel_rfl) (by kernel_rfl) env_nil ?_
  intro lim args H r h
  unfold G66 w1 at h
  split at h
  · exact (eq66 N lim _ H).trans h
  · simp at h
/-- (*besom/page.Page).All -/
def B135 (N : Nat) (lim : Nat) (p0 : Value) (H : IHeap) : RV :=
 retK ((ibin .eql .ptr p0 (.pointer none)).bind fun t4 =>
 (boolK t4 fun b1 => bif b1 then
 (some (.ret (.slice none 0 0), H))
 else
 (inilc p0).bind fun t6 =>
 (paddr 2 t6).bind fun t7 =>
 (hload false 1 H t7).bind fun t8 =>
 none))
def F135 (N lim : Nat) (a0 : Value) (H : IHeap) : RV := B135 N lim a0 H
def G135 (N : Nat) : G := w1 (F135 N)
theorem eq135 (N : Nat) (lim : Nat) (a0 : Value) (H : IHeap) : ifun Tryz.prog { fn := envOf [], wr := [] } { promo := [], share := false } N (okOf Tryz.prog { promo := [], share := false } []) Tryz.f135 (.seq (.region []) (.seq (.seq (.region []) (.inl (.seq (.region []) .leaf) .leaf)) (.seq (.region []) .leaf))) lim [a0] H = B135 N lim a0 H := by kernel_rfl
theorem sim135 (N : Nat) : SimF Tryz.prog 135 (G135 N) := by
  refine SimF.gen [] [] { promo := [], share := false } N (.seq (.region []) (.seq (.seq (.region []) (.inl (.seq (.region []) .leaf) .leaf)) (.seq (.region []) .leaf))) Tryz.func135 (by kernel_rfl) (by kernel_rfl) env_nil ?_
  intro lim args H r h
  unfold G135 w1 at h
  split at h
  · exact (eq135 N lim _ H).trans h
  · simp at h
/-- (*besom/arena.Arena).All -/
def B67 (N : Nat) (g135 : RF1) (lim : Nat) (a0 : Value) (H : IHeap) : RV :=
 retK ((ibin .eql .ptr a0 (.pointer none)).bind fun t9 =>
 (boolK t9 fun b1 => bif b1 then
 (some (.ret (.slice none 0 0), H))
 else
 (inilc a0).bind fun t11 =>
 (paddr 0 t11).bind fun t12 =>
 (hload false 1 H t12).bind fun t13 =>
 (ilenS t13).bind fun t14 =>
 catchK 0 (iloop (fun vs1 H1 =>
 (ibin .lss .no (nthV 1 vs1) t14).bind fun t16 =>
 (boolK t16 fun b2 => bif b2 then
 (catchK 1 ((iidx 1 t13 (nthV 1 vs1)).bind fun t18 =>
 (hload false 1 H1 t18).bind fun t19 =>
 callK (g135 lim t19 H1) fun t21 H2 =>
 (ilenS t21).bind fun t22 =>
 catchK 2 (iloop (fun vs2 H3 =>
 (ibin .lss .no (nthV 1 vs2) t22).bind fun t24 =>
 (boolK t24 fun b3 => bif b3 then
 (catchK 3 ((iidx 1 t21 (nthV 1 vs2)).bind fun t25 =>
 (hload false 1 H3 t25).bind fun t26 =>
 none) fun vs3 H4 =>
 (ibin .add .no (nthV 1 vs2) (.int .i64 1)).bind fun t34 =>
 some (.norm ([(nthV 0 vs3), t34] ++ []), H4))
 else
 some (.exit 2 ([(nthV 0 vs2)] ++ []), H3))) N ([(nthV 0 vs1), (.int .i64 0)] ++ []) H2) fun vs4 H5 =>
 some (.norm ([(nthV 0 vs4)] ++ []), H5)) fun vs5 H6 =>
 (ibin .add .no (nthV 1 vs1) (.int .i64 1)).bind fun t35 =>
 some (.norm ([(nthV 0 vs5), t35] ++ []), H6))
 else
 some (.exit 0 ([(nthV 0 vs1)] ++ []), H1))) N ([(.slice none 0 0), (.int .i64 0)] ++ []) H) fun vs6 H7 =>
 some (.ret (nthV 0 vs6), H7)))
def F67 (N lim : Nat) (a0 : Value) (H : IHeap) : RV := B67 N (F135 N) lim a0 H
def G67 (N : Nat) : G := w1 (F67 N)
theorem eq67 (N : Nat) (g135 : RF1) (lim : Nat) (a0 : Value) (H : IHeap) : ifun Tryz.prog { fn := envOf [(135, Ideal.w1 g135)], wr := [] } { promo := [32], share := false } N (okOf Tryz.prog { promo := [32], share := false } []) Tryz.f67 (.seq (.region []) (.seq (.seq (.region []) (.inl (.seq (.region []) .leaf) .leaf)) (.seq (.region []) (.seq (.seq (.region []) (.block [3] [] [32] (.loop [3, 15] [] [32] (.seq (.region []) (.seq (.inl .leaf .leaf) (.seq (.block [3] [] [32] (.seq (.region []) (.seq (.region []) (.block [3] [] [32] (.loop [3, 23] [] [32] (.seq (.region []) (.seq (.inl .leaf .leaf) (.seq (.block [3] [] [32] (.seq (.region []) (.region []))) (.region []))))))))) (.region []))))))) (.seq (.region []) .leaf))))) lim [a0] H = B67 N g135 lim a0 H := by kernel_rfl
theorem sim67 (N : Nat) : SimF Tryz.prog 67 (G67 N) := by
  refine SimF.gen [(135, G135 N)] [] { promo := [32], share := false } N (.seq (.region []) (.seq (.seq (.region []) (.inl (.seq (.region []) .leaf) .leaf)) (.seq (.region []) (.seq (.seq (.region []) (.block [3] [] [32] (.loop [3, 15] [] [32] (.seq (.region []) (.seq (.inl .leaf .leaf) (.seq (.block [3] [] [32] (.seq (.region []) (.seq (.region []) (.block [3] [] [32] (.loop [3, 23] [] [32] (.seq (.region []) (.seq (.inl .leaf .leaf) (.seq (.block [3] [] [32] (.seq (.region []) (.region []))) (.region []))))))))) (.region []))))))) (.seq (.region []) .leaf))))) Tryz.func67 (by kernel_rfl) (by kernel_rfl) (env_cons (sim135 N) env_nil) ?_
  intro lim args H r h
  unfold G67 w1 at h
  split at h
  · exact (eq67 N (F135 N) lim _ H).trans h
  · simp at h
/-- (*besom/heap.Heap).Objects -/
def B23 (N : Nat) (g66 : RF1) (g67 : RF1) (lim : Nat) (h0 : Value) (H : IHeap) : RV :=
 retK (callK (g66 lim h0 H) fun t9 H1 =>
 (boolK t9 fun b1 => bif b1 then
 (some (.ret (.slice none 0 0), H1))
 else
 (inilc h0).bind fun t11 =>
 (paddr 0 t11).bind fun t12 =>
 (hload false 1 H1 t12).bind fun t13 =>
 callK (g67 lim t13 H1) fun t14 H2 =>
 (ilenS t14).bind fun t15 =>
 catchK 0 (iloop (fun vs1 H3 =>
 (ibin .lss .no (nthV 1 vs1) t15).bind fun t17 =>
 (boolK t17 fun b2 => bif b2 then
 (catchK 1 ((iidx 1 t14 (nthV 1 vs1)).bind fun t18 =>
 (hload false 1 H3 t18).bind fun t19 =>
 none) fun vs2 H4 =>
 (ibin .add .no (nthV 1 vs1) (.int .i64 1)).bind fun t30 =>
 some (.norm ([(nthV 0 vs2), t30] ++ []), H4))
 else
 some (.exit 0 ([(nthV 0 vs1)] ++ []), H3))) N ([(.slice none 0 0), (.int .i64 0)] ++ []) H2) fun vs3 H5 =>
 some (.ret (nthV 0 vs3), H5)))
def F23 (N lim : Nat) (a0 : Value) (H : IHeap) : RV := B23 N (F66 N) (F67 N) lim a0 H
def G23 (N : Nat) : G := w1 (F23 N)
theorem eq23 (N : Nat) (g66 : RF1) (g67 : RF1) (lim : Nat) (a0 : Value) (H : IHeap) : ifun Tryz.prog { fn := envOf [(66, Ideal.w1 g66), (67, Ideal.w1 g67)], wr := [] } { promo := [6, 28], share := false } N (okOf Tryz.prog { promo := [6, 28], share := false } []) Tryz.f23 (.seq (.region []) (.seq (.seq (.region []) (.inl (.seq (.region []) .leaf) .leaf)) (.seq (.region []) (.seq (.seq (.region []) (.block [3] [] [6, 28] (.loop [3, 16] [] [6, 28] (.seq (.region []) (.seq (.inl .leaf .leaf) (.seq (.block [3] [] [6, 28] (.seq (.region []) (.seq (.region []) (.region [])))) (.region []))))))) (.seq (.region []) .leaf))))) lim [a0] H = B23 N g66 g67 lim a0 H := by kernel_rfl
theorem sim23 (N : Nat) : SimF Tryz.prog 23 (G23 N) := by
  refine SimF.gen [(66, G66 N), (67, G67 N)] [] { promo := [6, 28], share := false } N (.seq (.region []) (.seq (.seq (.region []) (.inl (.seq (.region []) .leaf) .leaf)) (.seq (.region []) (.seq (.seq (.region []) (.block [3] [] [6, 28] (.loop [3, 16] [] [6, 28] (.seq (.region []) (.seq (.inl .leaf .leaf) (.seq (.block [3] [] [6, 28] (.seq (.region []) (.seq (.region []) (.region [])))) (.region []))))))) (.seq (.region []) .leaf))))) Tryz.func23 (by kernel_rfl) (by kernel_rfl) (env_cons (sim66 N) (env_cons (sim67 N) env_nil)) ?_
  intro lim args H r h
  unfold G23 w1 at h
  split at h
  · exact (eq23 N (F66 N) (F67 N) lim _ H).trans h
  · simp at h
/-- (*besom/world.World).life -/
def B24 (N : Nat) (g69 : RF1) (lim : Nat) (w0 k1 : Value) (H : IHeap) : RV :=
 retK ((inilc w0).bind fun t7 =>
 (paddr 15 t7).bind fun t8 =>
 (hload false 1 H t8).bind fun t9 =>
 (iidx 1 t9 k1).bind fun t11 =>
 (hload false 1 H t11).bind fun t12 =>
 callK (g69 lim t12 H) fun t13 H1 =>
 (istore true 7 [(.int .i64 0), (.int .i64 0), (.int .i64 0), (.slice none 0 0), (.slice none 0 0), (.slice none 0 0), (.bool false)] 0 t13).bind fun cs1 =>
 (inilc w0).bind fun t15 =>
 (paddr 16 t15).bind fun t16 =>
 (hload false 1 H1 t16).bind fun t17 =>
 (iidx 2 t17 k1).bind fun t19 =>
 (paddr 0 t19).bind fun t20 =>
 (hload false 1 H1 t20).bind fun t21 =>
 (inilc w0).bind fun t23 =>
 (paddr 16 t23).bind fun t24 =>
 (hload false 1 H1 t24).bind fun t25 =>
 (iidx 2 t25 k1).bind fun t27 =>
 (paddr 1 t27).bind fun t28 =>
 (hload false 1 H1 t28).bind fun t29 =>
 (istore false 1 cs1 0 t21).bind fun cs2 =>
 (istore false 1 cs2 6 t29).bind fun cs3 =>
 (iload true 7 cs3 0).bind fun t32 =>
 (istore true 7 [(.int .i64 0), (.int .i64 0), (.int .i64 0), (.slice none 0 0), (.slice none 0 0), (.slice none 0 0), (.bool false)] 0 t32).bind fun cs4 =>
 (iload true 7 cs4 0).bind fun r1 =>
 some (.ret r1, H1))
def F24 (N lim : Nat) (a0 a1 : Value) (H : IHeap) : RV := B24 N (F69 N) lim a0 a1 H
def G24 (N : Nat) : G := w2 (F24 N)
theorem eq24 (N : Nat) (g69 : RF1) (lim : Nat) (a0 a1 : Value) (H : IHeap) : ifun Tryz.prog { fn := envOf [(69, Ideal.w1 g69)], wr := [] } { promo := [4, 5], share := false } N (okOf Tryz.prog { promo := [4, 5], share := false } []) Tryz.f24 (.seq (.region []) (.seq (.region []) (.seq (.region []) (.seq (.region []) .leaf)))) lim [a0, a1] H = B24 N g69 lim a0 a1 H := by kernel_rfl
theorem sim24 (N : Nat) : SimF Tryz.prog 24 (G24 N) := by
  refine SimF.gen [(69, G69 N)] [] { promo := [4, 5], share := false } N (.seq (.region []) (.seq (.region []) (.seq (.region []) (.seq (.region []) .leaf)))) Tryz.func24 (by kernel_rfl) (by kernel_rfl) (env_cons (sim69 N) env_nil) ?_
  intro lim args H r h
  unfold G24 w2 at h
  split at h
  · exact (eq24 N (F69 N) lim _ _ H).trans h
  · simp at h
/-- (*besom/world.World).Snap -/
def B9 (N : Nat) (g11 : RF1) (g15 : RF1) (g22 : RF1) (g23 : RF1) (g24 : RF2) (lim : Nat) (w0 : Value) (H : IHeap) : RV :=
 retK (callK (g15 lim w0 H) fun t6 H1 =>
 (boolK t6 fun b1 => bif b1 then
 ((istore true 7 [(.int .i64 0), (.int .i64 0), (.int .i64 0), (.slice none 0 0), (.slice none 0 0), (.slice none 0 0), (.slice none 0 0)] 0 (.agg ⟨[(.int .i64 0), (.int .i64 0), (.int .i64 0), (.slice none 0 0), (.slice none 0 0), (.slice none 0 0), (.slice none 0 0)]⟩)).bind fun cs1 =>
 (iload true 7 cs1 0).bind fun r1 =>
 some (.ret r1, H1))
 else
 (inilc w0).bind fun t9 =>
 (paddr 20 t9).bind fun t10 =>
 (hload false 1 H1 t10).bind fun t11 =>
 (inilc w0).bind fun t13 =>
 (paddr 12 t13).bind fun t14 =>
 (paddr 0 t14).bind fun t15 =>
 (hload false 1 H1 t15).bind fun t16 =>
 (inilc w0).bind fun t18 =>
 (paddr 12 t18).bind fun t19 =>
 (paddr 1 t19).bind fun t20 =>
 (hload false 1 H1 t20).bind fun t21 =>
 (inilc w0).bind fun t23 =>
 (paddr 17 t23).bind fun t24 =>
 (hload false 1 H1 t24).bind fun t25 =>
 callK (g22 H1.next t25 H1) fun t26 H2 =>
 callK (g11 H2.next w0 H2) fun t28 H3 =>
 (inilc w0).bind fun t30 =>
 (paddr 9 t30).bind fun t31 =>
 (hload false 1 H3 t31).bind fun t32 =>
 callK (g23 H3.next t32 H3) fun t33 H4 =>
 (istore false 1 [(.int .i64 0), (.int .i64 0), (.int .i64 0), (.slice none 0 0), (.slice none 0 0), (.slice none 0 0), (.slice none 0 0)] 0 t11).bind fun cs2 =>
 (istore false 1 cs2 1 t16).bind fun cs3 =>
 (istore false 1 cs3 2 t21).bind fun cs4 =>
 (istore false 1 cs4 4 t26).bind fun cs5 =>
 (istore false 1 cs5 5 t28).bind fun cs6 =>
 (istore false 1 cs6 6 t33).bind fun cs7 =>
 (istore true 7 [(.int .i64 0), (.int .i64 0), (.int .i64 0), (.slice none 0 0), (.slice none 0 0), (.slice none 0 0), (.slice none 0 0)] 0 (.agg ⟨cs7⟩)).bind fun cs8 =>
 (inilc w0).bind fun t36 =>
 (paddr 15 t36).bind fun t37 =>
 (hload false 1 H4 t37).bind fun t38 =>
 (ilenS t38).bind fun t39 =>
 catchK 0 (iloop (fun vs1 H5 =>
 (ibin .lss .no (nthV 0 vs1) t39).bind fun t41 =>
 (boolK t41 fun b2 => bif b2 then
 (catchK 1 ((aggs (nthV 0 (vs1.drop 1))).bind fun cs9 =>
 (iload false 1 cs9 3).bind fun t44 =>
 callK (g24 lim w0 (nthV 0 vs1) H5) fun t47 H6 =>
 (istore true 7 [(.int .i64 0), (.int .i64 0), (.int .i64 0), (.slice none 0 0), (.slice none 0 0), (.slice none 0 0), (.bool false)] 0 t47).bind fun cs10 =>
 rowK (lrow 7 1 cs10) fun m1 new1 =>
 callK (iappend false 7 104 lim H6 t44 m1 new1) fun t49 H7 =>
 (aggs (nthV 0 (vs1.drop 1))).bind fun cs11 =>
 (istore false 1 cs11 3 t49).bind fun cs12 =>
 some (.norm ([] ++ [.agg ⟨cs12⟩]), H7)) fun vs2 H8 =>
 (ibin .add .no (nthV 0 vs1) (.int .i64 1)).bind fun t51 =>
 (aggs (nthV 0 (vs2.drop 0))).bind fun cs13 =>
 some (.norm ([t51] ++ [.agg ⟨cs13⟩]), H8))
 else
 (aggs (nthV 0 (vs1.drop 1))).bind fun cs14 =>
 some (.exit 0 ([] ++ [.agg ⟨cs14⟩]), H5))) N ([(.int .i64 0)] ++ [.agg ⟨cs8⟩]) H4) fun vs3 H9 =>
 (aggs (nthV 0 (vs3.drop 0))).bind fun cs15 =>
 (iload true 7 cs15 0).bind fun t52 =>
 (istore true 7 [(.int .i64 0), (.int .i64 0), (.int .i64 0), (.slice none 0 0), (.slice none 0 0), (.slice none 0 0), (.slice none 0 0)] 0 t52).bind fun cs16 =>
 (iload true 7 cs16 0).bind fun r2 =>
 some (.ret r2, H9)))
def F9 (N lim : Nat) (a0 : Value) (H : IHeap) : RV := B9 N (F11 N) (F15 N) (F22 N) (F23 N) (F24 N) lim a0 H
def G9 (N : Nat) : G := w1 (F9 N)
theorem eq9 (N : Nat) (g11 : RF1) (g15 : RF1) (g22 : RF1) (g23 : RF1) (g24 : RF2) (lim : Nat) (a0 : Value) (H : IHeap) : ifun Tryz.prog { fn := envOf [(11, Ideal.w1 g11), (15, Ideal.w1 g15), (22, Ideal.w1 g22), (23, Ideal.w1 g23), (24, Ideal.w2 g24)], wr := [24] } { promo := [2, 3, 48], share := false } N (okOf Tryz.prog { promo := [2, 3, 48], share := false } [24]) Tryz.f9 (.seq (.region []) (.seq (.seq (.region []) (.inl (.seq (.region []) .leaf) .leaf)) (.seq (.region []) (.seq (.seq (.region []) (.block [] [3] [3, 48] (.loop [40] [3] [3, 48] (.seq (.region []) (.seq (.inl .leaf .leaf) (.seq (.block [] [3] [3, 48] (.seq (.region []) (.region []))) (.region []))))))) (.seq (.region []) .leaf))))) lim [a0] H = B9 N g11 g15 g22 g23 g24 lim a0 H := by kernel_rfl
theorem sim9 (N : Nat) : SimF Tryz.prog 9 (G9 N) := by
  refine SimF.gen [(11, G11 N), (15, G15 N), (22, G22 N), (23, G23 N), (24, G24 N)] [24] { promo := [2, 3, 48], share := false } N (.seq (.region []) (.seq (.seq (.region []) (.inl (.seq (.region []) .leaf) .leaf)) (.seq (.region []) (.seq (.seq (.region []) (.block [] [3] [3, 48] (.loop [40] [3] [3, 48] (.seq (.region []) (.seq (.inl .leaf .leaf) (.seq (.block [] [3] [3, 48] (.seq (.region []) (.region []))) (.region []))))))) (.seq (.region []) .leaf))))) Tryz.func9 (by kernel_rfl) (by kernel_rfl) (env_cons (sim11 N) (env_cons (sim15 N) (env_cons (sim22 N) (env_cons (sim23 N) (env_cons (sim24 N) env_nil))))) ?_
  intro lim args H r h
  unfold G9 w1 at h
  split at h
  · exact (eq9 N (F11 N) (F15 N) (F22 N) (F23 N) (F24 N) lim _ H).trans h
  · simp at h
/-- besom/besomlaw24.WorldMany -/
def B3 (N : Nat) (g4 : RF0) (g5 : RF2) (g6 : RF0) (g7 : RF1) (g8 : RF2) (g9 : RF1) (lim : Nat) (out0 : Value) (H : IHeap) : RV :=
 retK (callK (g4 lim H) fun t10 H1 =>
 (iun .not t10).bind fun t11 =>
 (boolK t11 fun b1 => bif b1 then
 (some (.ret (.bool false), H1))
 else
 (istore false 1 [(.int .i64 0), (.int .i64 0), (.int .i64 0), (.int .i64 0)] 0 (.int .i64 23)).bind fun cs1 =>
 (istore false 1 cs1 2 (.int .i64 1)).bind fun cs2 =>
 (istore true 4 [(.int .i64 0), (.int .i64 0), (.int .i64 0), (.int .i64 0)] 0 (.agg ⟨cs2⟩)).bind fun cs3 =>
 joinK (boolK out0 fun b2 => bif b2 then
 ((istore false 1 [(.int .i64 0), (.int .i64 0), (.int .i64 0), (.int .i64 0)] 0 (.int .i64 29)).bind fun cs4 =>
 (istore true 4 cs3 0 (.agg ⟨cs4⟩)).bind fun cs5 =>
 some (.norm ([] ++ [.agg ⟨cs5⟩]), H1))
 else
 some (.norm ([] ++ [.agg ⟨cs3⟩]), H1)) fun vs1 H2 =>
 (istore false 1 [(.int .i64 0), (.int .i64 0), (.int .i64 0), (.int .i64 0)] 0 (.int .i64 1)).bind fun cs6 =>
 (istore false 1 cs6 2 (.int .i64 3)).bind fun cs7 =>
 (aggs (nthV 0 (vs1.drop 0))).bind fun cs8 =>
 (iload true 4 cs8 0).bind fun t16 =>
 (istore false 1 [(.int .i64 0), (.int .i64 0), (.int .i64 0), (.int .i64 0)] 0 (.int .i64 9)).bind fun cs9 =>
 (istore false 1 cs9 2 (.int .i64 1)).bind fun cs10 =>
 (istore true 4 [(.int .i64 0), (.int .i64 0), (.int .i64 0), (.int .i64 0), (.int .i64 0), (.int .i64 0), (.int .i64 0), (.int .i64 0), (.int .i64 0), (.int .i64 0), (.int .i64 0), (.int .i64 0)] 0 (.agg ⟨cs7⟩)).bind fun cs11 =>
 (istore true 4 cs11 4 t16).bind fun cs12 =>
 (istore true 4 cs12 8 (.agg ⟨cs10⟩)).bind fun cs13 =>
 (istore false 1 [(.slice none 0 0), (.int .i64 0), (.int .i64 0), (.slice none 0 0), (.slice none 0 0)] 2 (.int .i64 1)).bind fun cs14 =>
 (istore false 1 cs14 4 (slc 4 H2.next 0 3 4)).bind fun cs15 =>
 (istore false 1 [(.int .i64 0), (.int .i64 0), (.int .i64 0), (.int .i64 0)] 0 (.int .i64 28)).bind fun cs16 =>
 (istore false 1 [(.int .i64 0), (.int .i64 0), (.int .i64 0), (.int .i64 0)] 0 (.int .i64 9)).bind fun cs17 =>
 (istore true 4 [(.int .i64 0), (.int .i64 0), (.int .i64 0), (.int .i64 0), (.int .i64 0), (.int .i64 0), (.int .i64 0), (.int .i64 0)] 0 (.agg ⟨cs16⟩)).bind fun cs18 =>
 (istore true 4 cs18 4 (.agg ⟨cs17⟩)).bind fun cs19 =>
 (istore false 1 [(.slice none 0 0), (.int .i64 0), (.int .i64 0), (.slice none 0 0), (.slice none 0 0)] 4 (slc 4 (H2.push (.cells cs13 0)).next 0 2 3)).bind fun cs20 =>
 (istore true 5 [(.slice none 0 0), (.int .i64 0), (.int .i64 0), (.slice none 0 0), (.slice none 0 0), (.slice none 0 0), (.int .i64 0), (.int .i64 0), (.slice none 0 0), (.slice none 0 0)] 0 (.agg ⟨cs15⟩)).bind fun cs21 =>
 (istore true 5 cs21 5 (.agg ⟨cs20⟩)).bind fun cs22 =>
 (istore false 1 [(.slice none 0 0), (.slice none 0 0), (.slice none 0 0)] 2 (slc 5 ((H2.push (.cells cs13 0)).push (.cells cs19 0)).next 0 2 3)).bind fun cs23 =>
 (istore true 3 [(.slice none 0 0), (.slice none 0 0), (.slice none 0 0)] 0 (.agg ⟨cs23⟩)).bind fun cs24 =>
 (iload true 3 cs24 0).bind fun t27 =>
 callK (g6 lim (((H2.push (.cells cs13 0)).push (.cells cs19 0)).push (.cells cs22 0))) fun t28 H3 =>
 callK (g5 lim t27 t28 H3) fun t29 H4 =>
 (iextract 0 t29).bind fun t30 =>
 (iextract 1 t29).bind fun t31 =>
 (iextract 2 t29).bind fun t32 =>
 (iun .not t32).bind fun t34 =>
 (gval false t34).bind fun w1 => grpK (bif w1 then
 ((ibin .eql .ptr t30 (.pointer none)).bind fun t37 =>
 some ([t37], H4))
 else some ([Value.tuple #[]], H4)) fun vs2 H5 =>
 (pickK t34 (.bool true) (nthV 0 vs2)).bind fun t38 =>
 (boolK t38 fun b4 => bif b4 then
 (some (.ret (.bool false), H5))
 else
 catchK 0 (iloop (fun vs3 H6 =>
 callK (g7 lim t30 H6) fun t40 H7 =>
 (ibin .eql .no t40 (.int .i64 0)).bind fun t41 =>
 (gval true t41).bind fun w2 => grpK (bif w2 then
 ((ibin .lss .no (nthV 0 vs3) (.int .i64 3000)).bind fun t44 =>
 some ([t44], H7))
 else some ([Value.tuple #[]], H7)) fun vs4 H8 =>
 (pickK t41 (nthV 0 vs4) (.bool false)).bind fun t45 =>
 (boolK t45 fun b6 => bif b6 then
 (catchK 1 ((istore true 2 [(.int .i64 0), (.int .i64 0)] 0 (.agg ⟨[(.int .i64 0), (.int .i64 0)]⟩)).bind fun cs25 =>
 callK (g8 lim t30 (slc 2 H8.next 0 1 2) (H8.push (.cells cs25 0))) fun t49 H9 =>
 (ibin .add .no (nthV 0 vs3) (.int .i64 1)).bind fun t51 =>
 some (.norm ([t51] ++ []), H9)) fun vs5 H10 =>
 some (.norm ([(nthV 0 vs5)] ++ []), H10))
 else
 some (.exit 0 ([(nthV 0 vs3)] ++ []), H8))) N ([(.int .i64 0)] ++ []) H5) fun vs6 H11 =>
 callK (g9 lim t30 H11) fun t53 H12 =>
 (istore true 7 [(.int .i64 0), (.int .i64 0), (.int .i64 0), (.slice none 0 0), (.slice none 0 0), (.slice none 0 0), (.slice none 0 0)] 0 t53).bind fun cs26 =>
 (boolK out0 fun b7 => bif b7 then
 ((iload false 1 cs26 0).bind fun t56 =>
 (ibin .eql .no t56 (.int .i64 5)).bind fun t57 =>
 (gval true t57).bind fun w3 => grpK (bif w3 then
 ((iload false 1 cs26 5).bind fun t60 =>
 (ilenS t60).bind fun t61 =>
 (ibin .eql .no t61 (.int .i64 500)).bind fun t62 =>
 some ([t62], H12))
 else some ([Value.tuple #[]], H12)) fun vs7 H13 =>
 (pickK t57 (nthV 0 vs7) (.bool false)).bind fun t63 =>
 (gval true t63).bind fun w4 => grpK (bif w4 then
 ((ibin .eql .no (nthV 0 vs6) (.int .i64 1002)).bind fun t66 =>
 some ([t66], H13))
 else some ([Value.tuple #[]], H13)) fun vs8 H14 =>
 (pickK t63 (nthV 0 vs8) (.bool false)).bind fun t67 =>
 some (.ret t67, H14))
 else
 (iload false 1 cs26 0).bind fun t69 =>
 (ibin .eql .no t69 (.int .i64 5)).bind fun t70 =>
 (gval true t70).bind fun w5 => grpK (bif w5 then
 ((iload false 1 cs26 3).bind fun t73 =>
 (ilenS t73).bind fun t74 =>
 (ibin .eql .no t74 (.int .i64 12)).bind fun t75 =>
 some ([t75], H12))
 else some ([Value.tuple #[]], H12)) fun vs9 H15 =>
 (pickK t70 (nthV 0 vs9) (.bool false)).bind fun t76 =>
 (gval true t76).bind fun w6 => grpK (bif w6 then
 ((ibin .eql .no (nthV 0 vs6) (.int .i64 24)).bind fun t79 =>
 some ([t79], H15))
 else some ([Value.tuple #[]], H15)) fun vs10 H16 =>
 (pickK t76 (nthV 0 vs10) (.bool false)).bind fun t80 =>
 some (.ret t80, H16)))))
def F3 (N lim : Nat) (a0 : Value) (H : IHeap) : RV := B3 N (F4 N) (F5 N) (F6 N) (F7 N) (F8 N) (F9 N) lim a0 H
def G3 (N : Nat) : G := w1 (F3 N)
theorem eq3 (N : Nat) (g4 : RF0) (g5 : RF2) (g6 : RF0) (g7 : RF1) (g8 : RF2) (g9 : RF1) (lim : Nat) (a0 : Value) (H : IHeap) : ifun Tryz.prog { fn := envOf [(4, Ideal.w0 g4), (5, Ideal.w2 g5), (6, Ideal.w0 g6), (7, Ideal.w1 g7), (8, Ideal.w2 g8), (9, Ideal.w1 g9)], wr := [5, 6] } { promo := [3, 4, 9], share := false } N (okOf Tryz.prog { promo := [3, 4, 9], share := false } [5, 6]) Tryz.f3 (.seq (.region []) (.seq (.seq (.region []) (.inl (.seq (.region []) .leaf) .leaf)) (.seq (.region []) (.seq (.seq (.region []) (.join [] [3] [3] (.region []) .leaf)) (.seq (.region []) (.seq (.region []) (.seq (.seq (.region [[37]]) (.inl (.seq (.region []) .leaf) .leaf)) (.seq (.region []) (.seq (.block [8] [] [] (.loop [8] [] [] (.seq (.seq (.region [[44]]) (.inl .leaf .leaf)) (.block [8] [] [] (.seq (.region []) (.region [])))))) (.seq (.region []) (.seq (.seq (.region []) (.inl (.seq (.region [[62], [66]]) .leaf) .leaf)) (.seq (.region [[75], [79]]) .leaf)))))))))))) lim [a0] H = B3 N g4 g5 g6 g7 g8 g9 lim a0 H := by kernel_rfl
theorem sim3 (N : Nat) : SimF Tryz.prog 3 (G3 N) := by
  refine SimF.gen [(4, G4 N), (5, G5 N), (6, G6 N), (7, G7 N), (8, G8 N), (9, G9 N)] [5, 6] { promo := [3, 4, 9], share := false } N (.seq (.region []) (.seq (.seq (.region []) (.inl (.seq (.region []) .leaf) .leaf)) (.seq (.region []) (.seq (.seq (.region []) (.join [] [3] [3] (.region []) .leaf)) (.seq (.region []) (.seq (.region []) (.seq (.seq (.region [[37]]) (.inl (.seq (.region []) .leaf) .leaf)) (.seq (.region []) (.seq (.block [8] [] [] (.loop [8] [] [] (.seq (.seq (.region [[44]]) (.inl .leaf .leaf)) (.block [8] [] [] (.seq (.region []) (.region [])))))) (.seq (.region []) (.seq (.seq (.region []) (.inl (.seq (.region [[62], [66]]) .leaf) .leaf)) (.seq (.region [[75], [79]]) .leaf)))))))))))) Tryz.func3 (by kernel_rfl) (by kernel_rfl) (env_cons (sim4 N) (env_cons (sim5 N) (env_cons (sim6 N) (env_cons (sim7 N) (env_cons (sim8 N) (env_cons (sim9 N) env_nil)))))) ?_
  intro lim args H r h
  unfold G3 w1 at h
  split at h
  · exact (eq3 N (F4 N) (F5 N) (F6 N) (F7 N) (F8 N) (F9 N) lim _ H).trans h
  · simp at h
end Go.Ideal
