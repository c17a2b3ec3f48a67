/- This text proves no statement of the seat: it says what functions of the program do on the ideal machine, part 1. By program (emitall.py). -/
import Derived.Test.YtpiddcbddilamaaGreatDoorFa
namespace Go.Ideal
open Go.Proofs
set_option maxRecDepth 100000
set_option linter.unusedVariables false
/-- (*besom/stack.Stack).Store -/
def B100 (N : Nat) (g173 : RF2) (lim : Nat) (s0 off1 v2 : Value) (H : IHeap) : RV :=
 retK (callK (g173 lim s0 off1 H) fun t9 H1 =>
 (iun .not t9).bind fun t10 =>
 (boolK t10 fun b1 => bif b1 then
 (some (.ret (.bool false), H1))
 else
 (inilc s0).bind fun t12 =>
 (paddr 1 t12).bind fun t13 =>
 (hload false 1 H1 t13).bind fun t14 =>
 (iidx 1 t14 off1).bind fun t17 =>
 (hstore false 1 lim H1 t17 v2).bind fun H2 =>
 some (.ret (.bool true), H2)))
def F100 (N lim : Nat) (a0 a1 a2 : Value) (H : IHeap) : RV := B100 N (F173 N) lim a0 a1 a2 H
def G100 (N : Nat) : G := w3 (F100 N)
theorem eq100 (N : Nat) (g173 : RF2) (lim : Nat) (a0 a1 a2 : Value) (H : IHeap) : ifun Tryz.prog { fn := envOf [(173, Ideal.w2 g173)], wr := [] } { promo := [], share := false } N (okOf Tryz.prog { promo := [], share := false } []) Tryz.f100 (.seq (.region []) (.seq (.seq (.region []) (.inl (.seq (.region []) .leaf) .leaf)) (.seq (.region []) (.seq (.region []) .leaf)))) lim [a0, a1, a2] H = B100 N g173 lim a0 a1 a2 H := by kernel_rfl
theorem sim100 (N : Nat) : SimF Tryz.prog 100 (G100 N) := by
  refine SimF.gen [(173, G173 N)] [] { promo := [], share := false } N (.seq (.region []) (.seq (.seq (.region []) (.inl (.seq (.region []) .leaf) .leaf)) (.seq (.region []) (.seq (.region []) .leaf)))) Tryz.func100 (by kernel_rfl) (by kernel_rfl) (env_cons (sim173 N) env_nil) ?_
  intro lim args H r h
  unfold G100 w3 at h
  split at h
  · exact (eq100 N (F173 N) lim _ _ _ H).trans h
  · simp at h
/-- (*besom/task.Task).Set -/
def B227 (N : Nat) (g98 : RF2) (g100 : RF3) (g148 : RF1) (lim : Nat) (t0 k1 v2 : Value) (H : IHeap) : RV :=
 retK ((ibin .neq .ptr t0 (.pointer none)).bind fun t8 =>
 (gval true t8).bind fun w1 => grpK (bif w1 then
 ((inilc t0).bind fun t11 =>
 (paddr 3 t11).bind fun t12 =>
 (hload false 1 H t12).bind fun t13 =>
 callK (g148 H.next t0 H) fun t16 H2 =>
 (ibin .sub .no t16 (.int .i64 1)).bind fun t17 =>
 (istore false 1 [(.int .i64 0), (.int .i64 0)] 0 t17).bind fun cs1 =>
 (istore false 1 cs1 1 k1).bind fun cs2 =>
 callK (g98 H2.next t0 (.agg ⟨cs2⟩) H2) fun t20 H3 =>
 callK (g100 lim t13 t20 v2 H3) fun t22 H4 =>
 some ([t22], H4))
 else some ([Value.tuple #[]], H)) fun vs1 H1 =>
 (pickK t8 (nthV 0 vs1) (.bool false)).bind fun t23 =>
 some (.ret t23, H1))
def F227 (N lim : Nat) (a0 a1 a2 : Value) (H : IHeap) : RV := B227 N (F98 N) (F100 N) (F148 N) lim a0 a1 a2 H
def G227 (N : Nat) : G := w3 (F227 N)
theorem eq227 (N : Nat) (g98 : RF2) (g100 : RF3) (g148 : RF1) (lim : Nat) (a0 a1 a2 : Value) (H : IHeap) : ifun Tryz.prog { fn := envOf [(98, Ideal.w2 g98), (100, Ideal.w3 g100), (148, Ideal.w1 g148)], wr := [100] } { promo := [], share := false } N (okOf Tryz.prog { promo := [], share := false } [100]) Tryz.f227 (.seq (.region []) (.seq (.region [[22]]) .leaf)) lim [a0, a1, a2] H = B227 N g98 g100 g148 lim a0 a1 a2 H := by kernel_rfl
theorem sim227 (N : Nat) : SimF Tryz.prog 227 (G227 N) := by
  refine SimF.gen [(98, G98 N), (100, G100 N), (148, G148 N)] [100] { promo := [], share := false } N (.seq (.region []) (.seq (.region [[22]]) .leaf)) Tryz.func227 (by kernel_rfl) (by kernel_rfl) (env_cons (sim98 N) (env_cons (sim100 N) (env_cons (sim148 N) env_nil))) ?_
  intro lim args H r h
  unfold G227 w3 at h
  split at h
  · exact (eq227 N (F98 N) (F100 N) (F148 N) lim _ _ _ H).trans h
  · simp at h
/-- (*besom/task.Task).Pop -/
def B158 (N : Nat) (g148 : RF1) (g160 : RF1) (g226 : RF1) (g227 : RF3) (lim : Nat) (t0 value1 has2 : Value) (H : IHeap) : RV :=
 retK (callK (g160 lim t0 H) fun t11 H1 =>
 (ibin .eql .ptr t11 (.pointer none)).bind fun t13 =>
 (boolK t13 fun b1 => bif b1 then
 (some (.ret (.bool false), H1))
 else
 (inilc t0).bind fun t15 =>
 (paddr 5 t15).bind fun t16 =>
 (paddr 0 t16).bind fun t17 =>
 (hload false 1 H1 t17).bind fun t18 =>
 (inilc t0).bind fun t20 =>
 (paddr 5 t20).bind fun t21 =>
 (paddr 0 t21).bind fun t22 =>
 (hload false 1 H1 t22).bind fun t23 =>
 (ilenS t23).bind fun t24 =>
 (ibin .sub .no t24 (.int .i64 1)).bind fun t25 =>
 (iidx 3 t18 t25).bind fun t26 =>
 (paddr 1 t26).bind fun t27 =>
 (hload false 1 H1 t27).bind fun t28 =>
 (inilc t11).bind fun t30 =>
 (paddr 3 t30).bind fun t31 =>
 (hload false 1 H1 t31).bind fun t32 =>
 (inilc t0).bind fun t34 =>
 (paddr 7 t34).bind fun t35 =>
 (hload false 1 H1 t35).bind fun t36 =>
 callK (g148 H1.next t0 H1) fun t38 H2 =>
 (ibin .sub .no t38 (.int .i64 1)).bind fun t39 =>
 (istore false 1 [(.int .i64 0), (.int .i64 0)] 0 t39).bind fun cs1 =>
 (istore false 1 cs1 1 (.int .i64 0)).bind fun cs2 =>
 (idelete 3 lim H2 t36 (.agg ⟨cs2⟩)).bind fun H3 =>
 (inilc t0).bind fun t43 =>
 (paddr 4 t43).bind fun t44 =>
 (hload false 1 H3 t44).bind fun t45 =>
 (inilc t0).bind fun t47 =>
 (paddr 4 t47).bind fun t48 =>
 (hload false 1 H3 t48).bind fun t49 =>
 (ilenS t49).bind fun t50 =>
 (ibin .sub .no t50 (.int .i64 1)).bind fun t51 =>
 (isliceS 5 t45 none (some t51) none).bind fun t52 =>
 (inilc t0).bind fun t53 =>
 (paddr 4 t53).bind fun t54 =>
 (hstore false 1 lim H3 t54 t52).bind fun H4 =>
 (inilc t0).bind fun t57 =>
 (paddr 5 t57).bind fun t58 =>
 (hload true 2 H4 t58).bind fun t59 =>
 callK (g226 lim t59 H4) fun t60 H5 =>
 (inilc t0).bind fun t61 =>
 (paddr 5 t61).bind fun t62 =>
 (hstore true 2 lim H5 t62 t60).bind fun H6 =>
 (gval true has2).bind fun w1 => grpK (bif w1 then
 ((ibin .geq .no t32 (.int .i64 0)).bind fun t66 =>
 some ([t66], H6))
 else some ([Value.tuple #[]], H6)) fun vs1 H7 =>
 (pickK has2 (nthV 0 vs1) (.bool false)).bind fun t67 =>
 (gval true t67).bind fun w2 => grpK (bif w2 then
 ((iun .not t28).bind fun t70 =>
 some ([t70], H7))
 else some ([Value.tuple #[]], H7)) fun vs2 H8 =>
 (pickK t67 (nthV 0 vs2) (.bool false)).bind fun t71 =>
 joinK (boolK t71 fun b4 => bif b4 then
 (callK (g227 lim t0 t32 value1 H8) fun t75 H9 =>
 some (.norm ([] ++ []), H9))
 else
 some (.norm ([] ++ []), H8)) fun vs3 H10 =>
 some (.ret (.bool true), H10)))
def F158 (N lim : Nat) (a0 a1 a2 : Value) (H : IHeap) : RV := B158 N (F148 N) (F160 N) (F226 N) (F227 N) lim a0 a1 a2 H
def G158 (N : Nat) : G := w3 (F158 N)
theorem eq158 (N : Nat) (g148 : RF1) (g160 : RF1) (g226 : RF1) (g227 : RF3) (lim : Nat) (a0 a1 a2 : Value) (H : IHeap) : ifun Tryz.prog { fn := envOf [(148, Ideal.w1 g148), (160, Ideal.w1 g160), (226, Ideal.w1 g226), (227, Ideal.w3 g227)], wr := [] } { promo := [], share := false } N (okOf Tryz.prog { promo := [], share := false } []) Tryz.f158 (.seq (.region []) (.seq (.region []) (.seq (.seq (.region []) (.inl (.seq (.region []) .leaf) .leaf)) (.seq (.region []) (.seq (.region []) (.seq (.region []) (.seq (.region []) (.seq (.region []) (.seq (.seq (.region [[66], [70]]) (.join [] [] [] (.region []) .leaf)) (.seq (.region []) .leaf)))))))))) lim [a0, a1, a2] H = B158 N g148 g160 g226 g227 lim a0 a1 a2 H := by kernel_rfl
theorem sim158 (N : Nat) : SimF Tryz.prog 158 (G158 N) := by
  refine SimF.gen [(148, G148 N), (160, G160 N), (226, G226 N), (227, G227 N)] [] { promo := [], share := false } N (.seq (.region []) (.seq (.region []) (.seq (.seq (.region []) (.inl (.seq (.region []) .leaf) .leaf)) (.seq (.region []) (.seq (.region []) (.seq (.region []) (.seq (.region []) (.seq (.region []) (.seq (.seq (.region [[66], [70]]) (.join [] [] [] (.region []) .leaf)) (.seq (.region []) .leaf)))))))))) Tryz.func158 (by kernel_rfl) (by kernel_rfl) (env_cons (sim148 N) (env_cons (sim160 N) (env_cons (sim226 N) (env_cons (sim227 N) env_nil)))) ?_
  intro lim args H r h
  unfold G158 w3 at h
  split at h
  · exact (eq158 N (F148 N) (F160 N) (F226 N) (F227 N) lim _ _ _ H).trans h
  · simp at h
/-- (*besom/task.Task).Goto -/
def B159 (N : Nat) (g160 : RF1) (lim : Nat) (t0 pc1 : Value) (H : IHeap) : RV :=
 retK (callK (g160 lim t0 H) fun t6 H1 =>
 (ibin .neq .ptr t6 (.pointer none)).bind fun t8 =>
 joinK (boolK t8 fun b1 => bif b1 then
 ((inilc t6).bind fun t11 =>
 (paddr 1 t11).bind fun t12 =>
 (hstore false 1 lim H1 t12 pc1).bind fun H2 =>
 some (.norm ([] ++ []), H2))
 else
 some (.norm ([] ++ []), H1)) fun vs1 H3 =>
 some (.ret (.tuple ⟨[]⟩), H3))
def F159 (N lim : Nat) (a0 a1 : Value) (H : IHeap) : RV := B159 N (F160 N) lim a0 a1 H
def G159 (N : Nat) : G := w2 (F159 N)
theorem eq159 (N : Nat) (g160 : RF1) (lim : Nat) (a0 a1 : Value) (H : IHeap) : ifun Tryz.prog { fn := envOf [(160, Ideal.w1 g160)], wr := [] } { promo := [], share := false } N (okOf Tryz.prog { promo := [], share := false } []) Tryz.f159 (.seq (.region []) (.seq (.region []) (.join [] [] [] (.region []) .leaf))) lim [a0, a1] H = B159 N g160 lim a0 a1 H := by kernel_rfl
theorem sim159 (N : Nat) : SimF Tryz.prog 159 (G159 N) := by
  refine SimF.gen [(160, G160 N)] [] { promo := [], share := false } N (.seq (.region []) (.seq (.region []) (.join [] [] [] (.region []) .leaf))) Tryz.func159 (by kernel_rfl) (by kernel_rfl) (env_cons (sim160 N) env_nil) ?_
  intro lim args H r h
  unfold G159 w2 at h
  split at h
  · exact (eq159 N (F160 N) lim _ _ H).trans h
  · simp at h
/-- besom/mutator.pop -/
def B90 (N : Nat) (g88 : RF1) (g91 : RF1) (g92 : RF1) (g155 : RF1) (g157 : RF1) (g158 : RF3) (g159 : RF2) (lim : Nat) (p0 t1 : Value) (H : IHeap) : RV :=
 retK ((cellsOf true 3 p0).bind fun cs1 =>
 callK (g155 lim t1 H) fun t13 H1 =>
 (iextract 0 t13).bind fun t14 =>
 (iextract 1 t13).bind fun t15 =>
 (iload false 1 cs1 2).bind fun t17 =>
 callK (g91 lim t1 H1) fun t19 H2 =>
 (iidx 5 t17 t19).bind fun t20 =>
 (paddr 1 t20).bind fun t21 =>
 (hload false 1 H2 t21).bind fun t22 =>
 (ibin .neq .no t22 (.int .i64 0)).bind fun t23 =>
 (gval true t23).bind fun w1 => grpK (bif w1 then
 (callK (g88 lim t1 H2) fun t26 H4 =>
 none)
 else some ([Value.tuple #[]], H2)) fun vs1 H3 =>
 (pickK t23 (nthV 0 vs1) (.bool false)).bind fun t29 =>
 callK (g157 lim t1 H3) fun t31 H5 =>
 callK (g158 lim t1 t14 t29 H5) fun t35 H6 =>
 callK (g88 lim t1 H6) fun t37 H7 =>
 (istore true 7 [(.int .i64 0), (.int .i64 0), (.int .i64 0), (.slice none 0 0), (.slice none 0 0), (.slice none 0 0), (.bool false)] 0 t37).bind fun cs2 =>
 (iload false 1 cs2 3).bind fun t39 =>
 (ilenS t39).bind fun t40 =>
 (iun .not t31).bind fun t42 =>
 (gval true t42).bind fun w2 => grpK (bif w2 then
 ((ibin .gtr .no t40 (.int .i64 0)).bind fun t45 =>
 some ([t45], H7))
 else some ([Value.tuple #[]], H7)) fun vs2 H8 =>
 (pickK t42 (nthV 0 vs2) (.bool false)).bind fun t46 =>
 (gval true t46).bind fun w3 => grpK (bif w3 then
 ((iload false 1 cs2 3).bind fun t49 =>
 (ibin .sub .no t40 (.int .i64 1)).bind fun t51 =>
 (iidx 9 t49 t51).bind fun t52 =>
 (paddr 3 t52).bind fun t53 =>
 (hload false 1 H8 t53).bind fun t54 =>
 (iun .not t54).bind fun t55 =>
 some ([t55], H8))
 else some ([Value.tuple #[]], H8)) fun vs3 H9 =>
 (pickK t46 (nthV 0 vs3) (.bool false)).bind fun t56 =>
 (gval true t56).bind fun w4 => grpK (bif w4 then
 ((iload true 7 cs2 0).bind fun t58 =>
 none)
 else some ([Value.tuple #[]], H9)) fun vs4 H10 =>
 (pickK t56 (nthV 0 vs4) (.bool false)).bind fun t61 =>
 joinK (boolK t61 fun b5 => bif b5 then
 (callK (g92 lim t1 H10) fun t64 H11 =>
 (ibin .add .no t64 (.int .i64 1)).bind fun t65 =>
 callK (g159 lim t1 t65 H11) fun t66 H12 =>
 some (.norm ([] ++ []), H12))
 else
 some (.norm ([] ++ []), H10)) fun vs5 H13 =>
 (istore true 7 [(.int .i64 0), (.int .i64 0), (.int .i64 0), (.int .i64 0), (.int .i64 0), (.bool false), (.slice none 0 0)] 0 (.agg ⟨[(.int .i64 0), (.int .i64 0), (.int .i64 0), (.int .i64 0), (.int .i64 0), (.bool false), (.slice none 0 0)]⟩)).bind fun cs3 =>
 (iload true 7 cs3 0).bind fun r1 =>
 some (.ret r1, H13))
def F90 (N lim : Nat) (a0 a1 : Value) (H : IHeap) : RV := B90 N (F88 N) (F91 N) (F92 N) (F155 N) (F157 N) (F158 N) (F159 N) lim a0 a1 H
def G90 (N : Nat) : G := w2 (F90 N)
theorem eq90 (N : Nat) (g88 : RF1) (g91 : RF1) (g92 : RF1) (g155 : RF1) (g157 : RF1) (g158 : RF3) (g159 : RF2) (lim : Nat) (a0 a1 : Value) (H : IHeap) : ifun Tryz.prog { fn := envOf [(88, Ideal.w1 g88), (91, Ideal.w1 g91), (92, Ideal.w1 g92), (155, Ideal.w1 g155), (157, Ideal.w1 g157), (158, Ideal.w3 g158), (159, Ideal.w2 g159)], wr := [88, 91, 156] } { promo := [2, 4, 9], share := false } N (okOf Tryz.prog { promo := [2, 4, 9], share := false } [88, 91, 156]) Tryz.f90 (.seq (.region []) (.seq (.region []) (.seq (.region [[28]]) (.seq (.region []) (.seq (.region []) (.seq (.region []) (.seq (.seq (.region []) (.seq (.region [[45], [55], [60]]) (.join [] [] [] (.region []) .leaf))) (.seq (.region []) .leaf)))))))) lim [a0, a1] H = B90 N g88 g91 g92 g155 g157 g158 g159 lim a0 a1 H := by kernel_rfl
theorem sim90 (N : Nat) : SimF Tryz.prog 90 (G90 N) := by
  refine SimF.gen [(88, G88 N), (91, G91 N), (92, G92 N), (155, G155 N), (157, G157 N), (158, G158 N), (159, G159 N)] [88, 91, 156] { promo := [2, 4, 9], share := false } N (.seq (.region []) (.seq (.region []) (.seq (.region [[28]]) (.seq (.region []) (.seq (.region []) (.seq (.region []) (.seq (.seq (.region []) (.seq (.region [[45], [55], [60]]) (.join [] [] [] (.region []) .leaf))) (.seq (.region []) .leaf)))))))) Tryz.func90 (by kernel_rfl) (by kernel_rfl) (env_cons (sim88 N) (env_cons (sim91 N) (env_cons (sim92 N) (env_cons (sim155 N) (env_cons (sim157 N) (env_cons (sim158 N) (env_cons (sim159 N) env_nil))))))) ?_
  intro lim args H r h
  unfold G90 w2 at h
  split at h
  · exact (eq90 N (F88 N) (F91 N) (F92 N) (F155 N) (F157 N) (F158 N) (F159 N) lim _ _ H).trans h
  · simp at h
/-- (besom/mutator.step).on -/
def B168 (N : Nat) (g92 : RF1) (g159 : RF2) (lim : Nat) (s0 : Value) (H : IHeap) : RV :=
 retK ((cellsOf true 9 s0).bind fun cs1 =>
 (iload false 1 cs1 4).bind fun t4 =>
 (iload false 1 cs1 4).bind fun t6 =>
 callK (g92 lim t6 H) fun t7 H1 =>
 (ibin .add .no t7 (.int .i64 1)).bind fun t8 =>
 callK (g159 lim t4 t8 H1) fun t9 H2 =>
 (istore true 7 [(.int .i64 0), (.int .i64 0), (.int .i64 0), (.int .i64 0), (.int .i64 0), (.bool false), (.slice none 0 0)] 0 (.agg ⟨[(.int .i64 0), (.int .i64 0), (.int .i64 0), (.int .i64 0), (.int .i64 0), (.bool false), (.slice none 0 0)]⟩)).bind fun cs2 =>
 (iload true 7 cs2 0).bind fun r1 =>
 some (.ret r1, H2))
def F168 (N lim : Nat) (a0 : Value) (H : IHeap) : RV := B168 N (F92 N) (F159 N) lim a0 H
def G168 (N : Nat) : G := w1 (F168 N)
theorem eq168 (N : Nat) (g92 : RF1) (g159 : RF2) (lim : Nat) (a0 : Value) (H : IHeap) : ifun Tryz.prog { fn := envOf [(92, Ideal.w1 g92), (159, Ideal.w2 g159)], wr := [92, 159] } { promo := [1, 2], share := false } N (okOf Tryz.prog { promo := [1, 2], share := false } [92, 159]) Tryz.f168 (.seq (.region []) (.seq (.region []) (.seq (.region []) .leaf))) lim [a0] H = B168 N g92 g159 lim a0 H := by kernel_rfl
theorem sim168 (N : Nat) : SimF Tryz.prog 168 (G168 N) := by
  refine SimF.gen [(92, G92 N), (159, G159 N)] [92, 159] { promo := [1, 2], share := false } N (.seq (.region []) (.seq (.region []) (.seq (.region []) .leaf))) Tryz.func168 (by kernel_rfl) (by kernel_rfl) (env_cons (sim92 N) (env_cons (sim159 N) env_nil)) ?_
  intro lim args H r h
  unfold G168 w1 at h
  split at h
  · exact (eq168 N (F92 N) (F159 N) lim _ H).trans h
  · simp at h
/-- (besom/mutator.step).set -/
def B161 (N : Nat) (g168 : RF1) (g227 : RF3) (lim : Nat) (s0 k1 v2 : Value) (H : IHeap) : RV :=
 retK ((cellsOf true 9 s0).bind fun cs1 =>
 (iload false 1 cs1 4).bind fun t8 =>
 callK (g227 lim t8 k1 v2 H) fun t11 H1 =>
 (iload true 9 cs1 0).bind fun t12 =>
 callK (g168 lim t12 H1) fun t13 H2 =>
 (istore true 7 [(.int .i64 0), (.int .i64 0), (.int .i64 0), (.int .i64 0), (.int .i64 0), (.bool false), (.slice none 0 0)] 0 t13).bind fun cs2 =>
 (iload true 7 cs2 0).bind fun r1 =>
 some (.ret r1, H2))
def F161 (N lim : Nat) (a0 a1 a2 : Value) (H : IHeap) : RV := B161 N (F168 N) (F227 N) lim a0 a1 a2 H
def G161 (N : Nat) : G := w3 (F161 N)
theorem eq161 (N : Nat) (g168 : RF1) (g227 : RF3) (lim : Nat) (a0 a1 a2 : Value) (H : IHeap) : ifun Tryz.prog { fn := envOf [(168, Ideal.w1 g168), (227, Ideal.w3 g227)], wr := [] } { promo := [3, 6], share := false } N (okOf Tryz.prog { promo := [3, 6], share := false } []) Tryz.f161 (.seq (.region []) (.seq (.region []) (.seq (.region []) .leaf))) lim [a0, a1, a2] H = B161 N g168 g227 lim a0 a1 a2 H := by kernel_rfl
theorem sim161 (N : Nat) : SimF Tryz.prog 161 (G161 N) := by
  refine SimF.gen [(168, G168 N), (227, G227 N)] [] { promo := [3, 6], share := false } N (.seq (.region []) (.seq (.region []) (.seq (.region []) .leaf))) Tryz.func161 (by kernel_rfl) (by kernel_rfl) (env_cons (sim168 N) (env_cons (sim227 N) env_nil)) ?_
  intro lim args H r h
  unfold G161 w3 at h
  split at h
  · exact (eq161 N (F168 N) (F227 N) lim _ _ _ H).trans h
  · simp at h
/-- besom/word.Of -/
def B162 (N : Nat) (lim : Nat) (v0 : Value) (H : IHeap) : RV :=
 retK ((iconv .u64 v0).bind fun t4 =>
 (iconv .u32 t4).bind fun t5 =>
 (iconv .i32 t5).bind fun t6 =>
 (iconv .i64 t6).bind fun t7 =>
 some (.ret t7, H))
def F162 (N lim : Nat) (a0 : Value) (H : IHeap) : RV := B162 N lim a0 H
def G162 (N : Nat) : G := w1 (F162 N)
theorem eq162 (N : Nat) (lim : Nat) (a0 : Value) (H : IHeap) : ifun Tryz.prog { fn := envOf [], wr := [] } { promo := [], share := false } N (okOf Tryz.prog { promo := [], share := false } []) Tryz.f162 (.seq (.region []) (.seq (.region []) .leaf)) lim [a0] H = B162 N lim a0 H := by kernel_rfl
theorem sim162 (N : Nat) : SimF Tryz.prog 162 (G162 N) := by
  refine SimF.gen [] [] { promo := [], share := false } N (.seq (.region []) (.seq (.region []) .leaf)) Tryz.func162 (by kernel_rfl) (by kernel_rfl) env_nil ?_
  intro lim args H r h
  unfold G162 w1 at h
  split at h
  · exact (eq162 N lim _ H).trans h
  · simp at h
/-- (*besom/stack.Stack).Load -/
def B99 (N : Nat) (g173 : RF2) (lim : Nat) (s0 off1 : Value) (H : IHeap) : RV :=
 retK (callK (g173 lim s0 off1 H) fun t8 H1 =>
 (iun .not t8).bind fun t9 =>
 (boolK t9 fun b1 => bif b1 then
 (some (.ret (.tuple ⟨[(.int .i64 0), (.bool false)]⟩), H1))
 else
 (inilc s0).bind fun t11 =>
 (paddr 1 t11).bind fun t12 =>
 (hload false 1 H1 t12).bind fun t13 =>
 (iidx 1 t13 off1).bind fun t15 =>
 (hload false 1 H1 t15).bind fun t16 =>
 some (.ret (.tuple ⟨[t16, (.bool true)]⟩), H1)))
def F99 (N lim : Nat) (a0 a1 : Value) (H : IHeap) : RV := B99 N (F173 N) lim a0 a1 H
def G99 (N : Nat) : G := w2 (F99 N)
theorem eq99 (N : Nat) (g173 : RF2) (lim : Nat) (a0 a1 : Value) (H : IHeap) : ifun Tryz.prog { fn := envOf [(173, Ideal.w2 g173)], wr := [] } { promo := [], share := false } N (okOf Tryz.prog { promo := [], share := false } []) Tryz.f99 (.seq (.region []) (.seq (.seq (.region []) (.inl (.seq (.region []) .leaf) .leaf)) (.seq (.region []) .leaf))) lim [a0, a1] H = B99 N g173 lim a0 a1 H := by kernel_rfl
theorem sim99 (N : Nat) : SimF Tryz.prog 99 (G99 N) := by
  refine SimF.gen [(173, G173 N)] [] { promo := [], share := false } N (.seq (.region []) (.seq (.seq (.region []) (.inl (.seq (.region []) .leaf) .leaf)) (.seq (.region []) .leaf))) Tryz.func99 (by kernel_rfl) (by kernel_rfl) (env_cons (sim173 N) env_nil) ?_
  intro lim args H r h
  unfold G99 w2 at h
  split at h
  · exact (eq99 N (F173 N) lim _ _ H).trans h
  · simp at h
/-- (*besom/task.Task).Slot -/
def B163 (N : Nat) (g98 : RF2) (g99 : RF2) (g148 : RF1) (lim : Nat) (t0 k1 : Value) (H : IHeap) : RV :=
 retK ((ibin .eql .ptr t0 (.pointer none)).bind fun t8 =>
 (boolK t8 fun b1 => bif b1 then
 (some (.ret (.int .i64 0), H))
 else
 (inilc t0).bind fun t11 =>
 (paddr 3 t11).bind fun t12 =>
 (hload false 1 H t12).bind fun t13 =>
 callK (g148 H.next t0 H) fun t16 H1 =>
 (ibin .sub .no t16 (.int .i64 1)).bind fun t17 =>
 (istore false 1 [(.int .i64 0), (.int .i64 0)] 0 t17).bind fun cs1 =>
 (istore false 1 cs1 1 k1).bind fun cs2 =>
 callK (g98 H1.next t0 (.agg ⟨cs2⟩) H1) fun t20 H2 =>
 callK (g99 lim t13 t20 H2) fun t21 H3 =>
 (iextract 0 t21).bind fun t22 =>
 (iextract 1 t21).bind fun t23 =>
 some (.ret t22, H3)))
def F163 (N lim : Nat) (a0 a1 : Value) (H : IHeap) : RV := B163 N (F98 N) (F99 N) (F148 N) lim a0 a1 H
def G163 (N : Nat) : G := w2 (F163 N)
theorem eq163 (N : Nat) (g98 : RF2) (g99 : RF2) (g148 : RF1) (lim : Nat) (a0 a1 : Value) (H : IHeap) : ifun Tryz.prog { fn := envOf [(98, Ideal.w2 g98), (99, Ideal.w2 g99), (148, Ideal.w1 g148)], wr := [99] } { promo := [], share := false } N (okOf Tryz.prog { promo := [], share := false } [99]) Tryz.f163 (.seq (.region []) (.seq (.seq (.region []) (.inl (.seq (.region []) .leaf) .leaf)) (.seq (.region []) (.seq (.region []) .leaf)))) lim [a0, a1] H = B163 N g98 g99 g148 lim a0 a1 H := by kernel_rfl
theorem sim163 (N : Nat) : SimF Tryz.prog 163 (G163 N) := by
  refine SimF.gen [(98, G98 N), (99, G99 N), (148, G148 N)] [99] { promo := [], share := false } N (.seq (.region []) (.seq (.seq (.region []) (.inl (.seq (.region []) .leaf) .leaf)) (.seq (.region []) (.seq (.region []) .leaf)))) Tryz.func163 (by kernel_rfl) (by kernel_rfl) (env_cons (sim98 N) (env_cons (sim99 N) (env_cons (sim148 N) env_nil))) ?_
  intro lim args H r h
  unfold G163 w2 at h
  split at h
  · exact (eq163 N (F98 N) (F99 N) (F148 N) lim _ _ H).trans h
  · simp at h
/-- besom/frame.spans -/
def B70 (N : Nat) (lim : Nat) (p0 fn1 : Value) (H : IHeap) : RV :=
 retK ((cellsOf true 3 p0).bind fun cs1 =>
 (ibin .lss .no fn1 (.int .i64 0)).bind fun t14 =>
 (gval false t14).bind fun w1 => grpK (bif w1 then
 ((iload false 1 cs1 2).bind fun t18 =>
 (ilenS t18).bind fun t19 =>
 (ibin .geq .no fn1 t19).bind fun t20 =>
 some ([t20], (H.push (.map 3 [] 0))))
 else some ([Value.tuple #[]], (H.push (.map 3 [] 0)))) fun vs1 H1 =>
 (pickK t14 (.bool true) (nthV 0 vs1)).bind fun t21 =>
 (boolK t21 fun b2 => bif b2 then
 (some (.ret (.tuple ⟨[(.map (some H.next)), (.int .i64 0)]⟩), H1))
 else
 (iload false 1 cs1 2).bind fun t24 =>
 (iidx 5 t24 fn1).bind fun t26 =>
 (hload true 5 H1 t26).bind fun t27 =>
 (istore true 5 [(.slice none 0 0), (.int .i64 0), (.int .i64 0), (.slice none 0 0), (.slice none 0 0)] 0 t27).bind fun cs2 =>
 (iload false 1 cs2 2).bind fun t29 =>
 (iminmax false [t29, (.int .i64 0)]).bind fun t30 =>
 (ibin .add .no (.int .i64 2) t30).bind fun t31 =>
 (iload false 1 cs2 3).bind fun t33 =>
 (ilenS t33).bind fun t34 =>
 catchK 0 (iloop (fun vs2 H2 =>
 (ibin .lss .no (nthV 1 vs2) t34).bind fun t36 =>
 (boolK t36 fun b3 => bif b3 then
 (catchK 1 ((iidx 1 t33 (nthV 1 vs2)).bind fun t38 =>
 (hload false 1 H2 t38).bind fun t39 =>
 (ibin .geq .no t39 (.int .i64 0)).bind fun t41 =>
 (gval true t41).bind fun w2 => grpK (bif w2 then
 ((iload false 1 cs1 1).bind fun t45 =>
 (ilenS t45).bind fun t46 =>
 (ibin .lss .no t39 t46).bind fun t47 =>
 some ([t47], H2))
 else some ([Value.tuple #[]], H2)) fun vs3 H3 =>
 (pickK t41 (nthV 0 vs3) (.bool false)).bind fun t48 =>
 joinK (boolK t48 fun b5 => bif b5 then
 ((iload false 1 cs1 1).bind fun t50 =>
 (iidx 1 t50 t39).bind fun t52 =>
 (paddr 0 t52).bind fun t53 =>
 (hload false 1 H3 t53).bind fun t54 =>
 (ilenS t54).bind fun t55 =>
 some (.norm ([t55] ++ []), H3))
 else
 some (.norm ([(.int .i64 0)] ++ []), H3)) fun vs4 H4 =>
 (istore false 1 [(.int .i64 0), (.int .i64 0)] 0 fn1).bind fun cs3 =>
 (istore false 1 cs3 1 (nthV 1 vs2)).bind fun cs4 =>
 (istore false 1 [(.int .i64 0), (.int .i64 0)] 0 (nthV 0 vs2)).bind fun cs5 =>
 (istore false 1 cs5 1 (nthV 0 vs4)).bind fun cs6 =>
 (imapUpdate 3 lim H4 (.map (some H.next)) (.agg ⟨cs4⟩) (.agg ⟨cs6⟩)).bind fun H5 =>
 (ibin .add .no (nthV 0 vs2) (nthV 0 vs4)).bind fun t65 =>
 some (.norm ([t65] ++ []), H5)) fun vs5 H6 =>
 (ibin .add .no (nthV 1 vs2) (.int .i64 1)).bind fun t66 =>
 some (.norm ([(nthV 0 vs5), t66] ++ []), H6))
 else
 some (.exit 0 ([(nthV 0 vs2)] ++ []), H2))) N ([t31, (.int .i64 0)] ++ []) H1) fun vs6 H7 =>
 some (.ret (.tuple ⟨[(.map (some H.next)), (nthV 0 vs6)]⟩), H7)))
def F70 (N lim : Nat) (a0 a1 : Value) (H : IHeap) : RV := B70 N lim a0 a1 H
def G70 (N : Nat) : G := w2 (F70 N)
theorem eq70 (N : Nat) (lim : Nat) (a0 a1 : Value) (H : IHeap) : ifun Tryz.prog { fn := envOf [], wr := [] } { promo := [2, 7], share := false } N (okOf Tryz.prog { promo := [2, 7], share := false } []) Tryz.f70 (.seq (.region []) (.seq (.region []) (.seq (.seq (.region [[20]]) (.inl (.seq (.region []) .leaf) .leaf)) (.seq (.region []) (.seq (.region []) (.seq (.seq (.region []) (.block [8] [] [] (.loop [8, 35] [] [] (.seq (.region []) (.seq (.inl .leaf .leaf) (.seq (.block [8] [] [] (.seq (.region []) (.seq (.region []) (.seq (.seq (.region [[47]]) (.join [11] [] [] (.region []) .leaf)) (.seq (.region []) (.region [])))))) (.region []))))))) (.seq (.region []) .leaf))))))) lim [a0, a1] H = B70 N lim a0 a1 H := by kernel_rfl
theorem sim70 (N : Nat) : SimF Tryz.prog 70 (G70 N) := by
  refine SimF.gen [] [] { promo := [2, 7], share := false } N (.seq (.region []) (.seq (.region []) (.seq (.seq (.region [[20]]) (.inl (.seq (.region []) .leaf) .leaf)) (.seq (.region []) (.seq (.region []) (.seq (.seq (.region []) (.block [8] [] [] (.loop [8, 35] [] [] (.seq (.region []) (.seq (.inl .leaf .leaf) (.seq (.block [8] [] [] (.seq (.region []) (.seq (.region []) (.seq (.seq (.region [[47]]) (.join [11] [] [] (.region []) .leaf)) (.seq (.region []) (.region [])))))) (.region []))))))) (.seq (.region []) .leaf))))))) Tryz.func70 (by kernel_rfl) (by kernel_rfl) env_nil ?_
  intro lim args H r h
  unfold G70 w2 at h
  split at h
  · exact (eq70 N lim _ _ H).trans h
  · simp at h
/-- besom/frame.Words -/
def B25 (N : Nat) (g70 : RF2) (lim : Nat) (p0 fn1 : Value) (H : IHeap) : RV :=
 retK ((cellsOf true 3 p0).bind fun cs1 =>
 (iload true 3 cs1 0).bind fun t8 =>
 callK (g70 lim t8 fn1 H) fun t10 H1 =>
 (iextract 0 t10).bind fun t11 =>
 (iextract 1 t10).bind fun t12 =>
 some (.ret t12, H1))
def F25 (N lim : Nat) (a0 a1 : Value) (H : IHeap) : RV := B25 N (F70 N) lim a0 a1 H
def G25 (N : Nat) : G := w2 (F25 N)
theorem eq25 (N : Nat) (g70 : RF2) (lim : Nat) (a0 a1 : Value) (H : IHeap) : ifun Tryz.prog { fn := envOf [(70, Ideal.w2 g70)], wr := [] } { promo := [2], share := false } N (okOf Tryz.prog { promo := [2], share := false } []) Tryz.f25 (.seq (.region []) (.seq (.region []) (.seq (.region []) .leaf))) lim [a0, a1] H = B25 N g70 lim a0 a1 H := by kernel_rfl
theorem sim25 (N : Nat) : SimF Tryz.prog 25 (G25 N) := by
  refine SimF.gen [(70, G70 N)] [] { promo := [2], share := false } N (.seq (.region []) (.seq (.region []) (.seq (.region []) .leaf))) Tryz.func25 (by kernel_rfl) (by kernel_rfl) (env_cons (sim70 N) env_nil) ?_
  intro lim args H r h
  unfold G25 w2 at h
  split at h
  · exact (eq25 N (F70 N) lim _ _ H).trans h
  · simp at h
/-- (*besom/task.Task).Used -/
def B94 (N : Nat) (g25 : RF2) (g160 : RF1) (lim : Nat) (t0 : Value) (H : IHeap) : RV :=
 retK (callK (g160 lim t0 H) fun t5 H1 =>
 (ibin .eql .ptr t5 (.pointer none)).bind fun t7 =>
 (boolK t7 fun b1 => bif b1 then
 (some (.ret (.int .i64 0), H1))
 else
 (inilc t5).bind fun t9 =>
 (paddr 2 t9).bind fun t10 =>
 (hload false 1 H1 t10).bind fun t11 =>
 (inilc t0).bind fun t13 =>
 (paddr 0 t13).bind fun t14 =>
 (hload true 3 H1 t14).bind fun t15 =>
 (inilc t5).bind fun t17 =>
 (paddr 0 t17).bind fun t18 =>
 (hload false 1 H1 t18).bind fun t19 =>
 callK (g25 H1.next t15 t19 H1) fun t20 H2 =>
 (ibin .add .no t11 t20).bind fun t21 =>
 some (.ret t21, H2)))
def F94 (N lim : Nat) (a0 : Value) (H : IHeap) : RV := B94 N (F25 N) (F160 N) lim a0 H
def G94 (N : Nat) : G := w1 (F94 N)
theorem eq94 (N : Nat) (g25 : RF2) (g160 : RF1) (lim : Nat) (a0 : Value) (H : IHeap) : ifun Tryz.prog { fn := envOf [(25, Ideal.w2 g25), (160, Ideal.w1 g160)], wr := [] } { promo := [], share := false } N (okOf Tryz.prog { promo := [], share := false } []) Tryz.f94 (.seq (.region []) (.seq (.region []) (.seq (.seq (.region []) (.inl (.seq (.region []) .leaf) .leaf)) (.seq (.region []) .leaf)))) lim [a0] H = B94 N g25 g160 lim a0 H := by kernel_rfl
theorem sim94 (N : Nat) : SimF Tryz.prog 94 (G94 N) := by
  refine SimF.gen [(25, G25 N), (160, G160 N)] [] { promo := [], share := false } N (.seq (.region []) (.seq (.region []) (.seq (.seq (.region []) (.inl (.seq (.region []) .leaf) .leaf)) (.seq (.region []) .leaf)))) Tryz.func94 (by kernel_rfl) (by kernel_rfl) (env_cons (sim25 N) (env_cons (sim160 N) env_nil)) ?_
  intro lim args H r h
  unfold G94 w1 at h
  split at h
  · exact (eq94 N (F25 N) (F160 N) lim _ H).trans h
  · simp at h
/-- (*besom/task.Task).Need -/
def B225 (N : Nat) (g25 : RF2) (g94 : RF1) (lim : Nat) (t0 fn1 : Value) (H : IHeap) : RV :=
 retK ((ibin .eql .ptr t0 (.pointer none)).bind fun t6 =>
 (boolK t6 fun b1 => bif b1 then
 (some (.ret (.int .i64 0), H))
 else
 callK (g94 H.next t0 H) fun t8 H1 =>
 (inilc t0).bind fun t10 =>
 (paddr 0 t10).bind fun t11 =>
 (hload true 3 H1 t11).bind fun t12 =>
 callK (g25 lim t12 fn1 H1) fun t14 H2 =>
 (ibin .add .no t8 t14).bind fun t15 =>
 some (.ret t15, H2)))
def F225 (N lim : Nat) (a0 a1 : Value) (H : IHeap) : RV := B225 N (F25 N) (F94 N) lim a0 a1 H
def G225 (N : Nat) : G := w2 (F225 N)
theorem eq225 (N : Nat) (g25 : RF2) (g94 : RF1) (lim : Nat) (a0 a1 : Value) (H : IHeap) : ifun Tryz.prog { fn := envOf [(25, Ideal.w2 g25), (94, Ideal.w1 g94)], wr := [25] } { promo := [], share := false } N (okOf Tryz.prog { promo := [], share := false } [25]) Tryz.f225 (.seq (.region []) (.seq (.seq (.region []) (.inl (.seq (.region []) .leaf) .leaf)) (.seq (.region []) .leaf))) lim [a0, a1] H = B225 N g25 g94 lim a0 a1 H := by kernel_rfl
theorem sim225 (N : Nat) : SimF Tryz.prog 225 (G225 N) := by
  refine SimF.gen [(25, G25 N), (94, G94 N)] [25] { promo := [], share := false } N (.seq (.region []) (.seq (.seq (.region []) (.inl (.seq (.region []) .leaf) .leaf)) (.seq (.region []) .leaf))) Tryz.func225 (by kernel_rfl) (by kernel_rfl) (env_cons (sim25 N) (env_cons (sim94 N) env_nil)) ?_
  intro lim args H r h
  unfold G225 w2 at h
  split at h
  · exact (eq225 N (F25 N) (F94 N) lim _ _ H).trans h
  · simp at h
/-- (*besom/task.Task).fits -/
def B213 (N : Nat) (g43 : RF1) (g225 : RF2) (lim : Nat) (t0 fn1 args2 : Value) (H : IHeap) : RV :=
 retK ((ibin .neq .ptr t0 (.pointer none)).bind fun t8 =>
 (gval true t8).bind fun w1 => grpK (bif w1 then
 ((ibin .geq .no fn1 (.int .i64 0)).bind fun t11 =>
 some ([t11], H))
 else some ([Value.tuple #[]], H)) fun vs1 H1 =>
 (pickK t8 (nthV 0 vs1) (.bool false)).bind fun t12 =>
 (gval true t12).bind fun w2 => grpK (bif w2 then
 ((inilc t0).bind fun t16 =>
 (paddr 0 t16).bind fun t17 =>
 (paddr 2 t17).bind fun t18 =>
 (hload false 1 H1 t18).bind fun t19 =>
 (ilenS t19).bind fun t20 =>
 (ibin .lss .no fn1 t20).bind fun t21 =>
 some ([t21], H1))
 else some ([Value.tuple #[]], H1)) fun vs2 H2 =>
 (pickK t12 (nthV 0 vs2) (.bool false)).bind fun t22 =>
 (gval true t22).bind fun w3 => grpK (bif w3 then
 ((ilenS args2).bind fun t25 =>
 (inilc t0).bind fun t27 =>
 (paddr 0 t27).bind fun t28 =>
 (paddr 2 t28).bind fun t29 =>
 (hload false 1 H2 t29).bind fun t30 =>
 (iidx 5 t30 fn1).bind fun t32 =>
 (paddr 0 t32).bind fun t33 =>
 (hload false 1 H2 t33).bind fun t34 =>
 (ilenS t34).bind fun t35 =>
 (ibin .eql .no t25 t35).bind fun t36 =>
 some ([t36], H2))
 else some ([Value.tuple #[]], H2)) fun vs3 H3 =>
 (pickK t22 (nthV 0 vs3) (.bool false)).bind fun t37 =>
 (gval true t37).bind fun w4 => grpK (bif w4 then
 (callK (g225 lim t0 fn1 H3) fun t41 H5 =>
 callK (g43 lim t0 H5) fun t43 H6 =>
 (ibin .leq .no t41 t43).bind fun t44 =>
 some ([t44], H6))
 else some ([Value.tuple #[]], H3)) fun vs4 H4 =>
 (pickK t37 (nthV 0 vs4) (.bool false)).bind fun t45 =>
 some (.ret t45, H4))
def F213 (N lim : Nat) (a0 a1 a2 : Value) (H : IHeap) : RV := B213 N (F43 N) (F225 N) lim a0 a1 a2 H
def G213 (N : Nat) : G := w3 (F213 N)
theorem eq213 (N : Nat) (g43 : RF1) (g225 : RF2) (lim : Nat) (a0 a1 a2 : Value) (H : IHeap) : ifun Tryz.prog { fn := envOf [(43, Ideal.w1 g43), (225, Ideal.w2 g225)], wr := [] } { promo := [], share := false } N (okOf Tryz.prog { promo := [], share := false } []) Tryz.f213 (.seq (.region []) (.seq (.region [[11], [21], [36], [44]]) .leaf)) lim [a0, a1, a2] H = B213 N g43 g225 lim a0 a1 a2 H := by kernel_rfl
theorem sim213 (N : Nat) : SimF Tryz.prog 213 (G213 N) := by
  refine SimF.gen [(43, G43 N), (225, G225 N)] [] { promo := [], share := false } N (.seq (.region []) (.seq (.region [[11], [21], [36], [44]]) .leaf)) Tryz.func213 (by kernel_rfl) (by kernel_rfl) (env_cons (sim43 N) (env_cons (sim225 N) env_nil)) ?_
  intro lim args H r h
  unfold G213 w3 at h
  split at h
  · exact (eq213 N (F43 N) (F225 N) lim _ _ _ H).trans h
  · simp at h
/-- (*besom/stack.Stack).Clear -/
def B275 (N : Nat) (g96 : RF1) (lim : Nat) (s0 from1 to2 : Value) (H : IHeap) : RV :=
 retK ((iminmax false [from1, (.int .i64 0)]).bind fun t7 =>
 callK (g96 lim s0 H) fun t10 H1 =>
 (iminmax true [to2, t10]).bind fun t11 =>
 (ibin .lss .no t7 t11).bind fun t14 =>
 joinK (boolK t14 fun b1 => bif b1 then
 ((inilc s0).bind fun t16 =>
 (paddr 1 t16).bind fun t17 =>
 (hload false 1 H1 t17).bind fun t18 =>
 (isliceS 1 t18 (some t7) (some t11) none).bind fun t21 =>
 (iclear [(.int .i64 0)] lim H1 t21).bind fun H2 =>
 some (.norm ([] ++ []), H2))
 else
 some (.norm ([] ++ []), H1)) fun vs1 H3 =>
 some (.ret (.tuple ⟨[]⟩), H3))
def F275 (N lim : Nat) (a0 a1 a2 : Value) (H : IHeap) : RV := B275 N (F96 N) lim a0 a1 a2 H
def G275 (N : Nat) : G := w3 (F275 N)
theorem eq275 (N : Nat) (g96 : RF1) (lim : Nat) (a0 a1 a2 : Value) (H : IHeap) : ifun Tryz.prog { fn := envOf [(96, Ideal.w1 g96)], wr := [] } { promo := [], share := false } N (okOf Tryz.prog { promo := [], share := false } []) Tryz.f275 (.seq (.region []) (.seq (.region []) (.join [] [] [] (.region []) .leaf))) lim [a0, a1, a2] H = B275 N g96 lim a0 a1 a2 H := by kernel_rfl
theorem sim275 (N : Nat) : SimF Tryz.prog 275 (G275 N) := by
  refine SimF.gen [(96, G96 N)] [] { promo := [], share := false } N (.seq (.region []) (.seq (.region []) (.join [] [] [] (.region []) .leaf))) Tryz.func275 (by kernel_rfl) (by kernel_rfl) (env_cons (sim96 N) env_nil) ?_
  intro lim args H r h
  unfold G275 w3 at h
  split at h
  · exact (eq275 N (F96 N) lim _ _ _ H).trans h
  · simp at h
/-- (*besom/task.Task).push -/
def B214 (N : Nat) (g25 : RF2) (g94 : RF1) (g227 : RF3) (g275 : RF3) (lim : Nat) (t0 fn1 args2 ret3 : Value) (H : IHeap) : RV :=
 retK (callK (g94 lim t0 H) fun t12 H1 =>
 (inilc t0).bind fun t14 =>
 (paddr 3 t14).bind fun t15 =>
 (hload false 1 H1 t15).bind fun t16 =>
 (inilc t0).bind fun t20 =>
 (paddr 0 t20).bind fun t21 =>
 (hload true 3 H1 t21).bind fun t22 =>
 callK (g25 H1.next t22 fn1 H1) fun t24 H2 =>
 (ibin .add .no t12 t24).bind fun t25 =>
 callK (g275 lim t16 t12 t25 H2) fun t26 H3 =>
 (inilc t0).bind fun t29 =>
 (paddr 4 t29).bind fun t30 =>
 (hload false 1 H3 t30).bind fun t31 =>
 (istore false 1 [(.int .i64 0), (.int .i64 0), (.int .i64 0), (.int .i64 0), (.slice none 0 0)] 0 fn1).bind fun cs1 =>
 (istore false 1 cs1 2 t12).bind fun cs2 =>
 (istore false 1 cs2 3 ret3).bind fun cs3 =>
 (istore true 5 [(.int .i64 0), (.int .i64 0), (.int .i64 0), (.int .i64 0), (.slice none 0 0)] 0 (.agg ⟨cs3⟩)).bind fun cs4 =>
 rowK (lrow 5 1 cs4) fun m1 new1 =>
 callK (iappend false 5 56 lim H3 t31 m1 new1) fun t37 H4 =>
 (inilc t0).bind fun t38 =>
 (paddr 4 t38).bind fun t39 =>
 (hstore false 1 lim H4 t39 t37).bind fun H5 =>
 (ilenS args2).bind fun t41 =>
 catchK 0 (iloop (fun vs1 H6 =>
 (ibin .lss .no (nthV 0 vs1) t41).bind fun t43 =>
 (boolK t43 fun b1 => bif b1 then
 (catchK 1 ((iidx 1 args2 (nthV 0 vs1)).bind fun t45 =>
 (hload false 1 H6 t45).bind fun t46 =>
 callK (g227 lim t0 (nthV 0 vs1) t46 H6) fun t50 H7 =>
 some (.norm ([] ++ []), H7)) fun vs2 H8 =>
 (ibin .add .no (nthV 0 vs1) (.int .i64 1)).bind fun t51 =>
 some (.norm ([t51] ++ []), H8))
 else
 some (.exit 0 ([] ++ []), H6))) N ([(.int .i64 0)] ++ []) H5) fun vs3 H9 =>
 some (.ret (.tuple ⟨[]⟩), H9))
def F214 (N lim : Nat) (a0 a1 a2 a3 : Value) (H : IHeap) : RV := B214 N (F25 N) (F94 N) (F227 N) (F275 N) lim a0 a1 a2 a3 H
def G214 (N : Nat) : G := w4 (F214 N)
theorem eq214 (N : Nat) (g25 : RF2) (g94 : RF1) (g227 : RF3) (g275 : RF3) (lim : Nat) (a0 a1 a2 a3 : Value) (H : IHeap) : ifun Tryz.prog { fn := envOf [(25, Ideal.w2 g25), (94, Ideal.w1 g94), (227, Ideal.w3 g227), (275, Ideal.w3 g275)], wr := [275] } { promo := [36], share := false } N (okOf Tryz.prog { promo := [36], share := false } [275]) Tryz.f214 (.seq (.region []) (.seq (.region []) (.seq (.region []) (.seq (.region []) (.block [] [] [] (.loop [42] [] [] (.seq (.region []) (.seq (.inl .leaf .leaf) (.seq (.block [] [] [] (.seq (.region []) (.region []))) (.region [])))))))))) lim [a0, a1, a2, a3] H = B214 N g25 g94 g227 g275 lim a0 a1 a2 a3 H := by kernel_rfl
theorem sim214 (N : Nat) : SimF Tryz.prog 214 (G214 N) := by
  refine SimF.gen [(25, G25 N), (94, G94 N), (227, G227 N), (275, G275 N)] [275] { promo := [36], share := false } N (.seq (.region []) (.seq (.region []) (.seq (.region []) (.seq (.region []) (.block [] [] [] (.loop [42] [] [] (.seq (.region []) (.seq (.inl .leaf .leaf) (.seq (.block [] [] [] (.seq (.region []) (.region []))) (.region [])))))))))) Tryz.func214 (by kernel_rfl) (by kernel_rfl) (env_cons (sim25 N) (env_cons (sim94 N) (env_cons (sim227 N) (env_cons (sim275 N) env_nil)))) ?_
  intro lim args H r h
  unfold G214 w4 at h
  split at h
  · exact (eq214 N (F25 N) (F94 N) (F227 N) (F275 N) lim _ _ _ _ H).trans h
  · simp at h
/-- (besom/unwind.State).Enter -/
def B215 (N : Nat) (g276 : RF1) (lim : Nat) (s0 : Value) (H : IHeap) : RV :=
 retK ((cellsOf true 2 s0).bind fun cs1 =>
 (iload true 2 cs1 0).bind fun t3 =>
 callK (g276 lim t3 H) fun t4 H1 =>
 (istore true 2 cs1 0 t4).bind fun cs2 =>
 (iload false 1 cs2 0).bind fun t6 =>
 (istore true 3 [(.bool false), (.bool false), (.int .i64 0)] 0 (.agg ⟨[(.bool false), (.bool false), (.int .i64 0)]⟩)).bind fun cs3 =>
 rowK (lrow 3 1 cs3) fun m1 new1 =>
 callK (iappend false 3 16 lim H1 t6 m1 new1) fun t9 H2 =>
 (istore false 1 cs2 0 t9).bind fun cs4 =>
 (iload true 2 cs4 0).bind fun t11 =>
 (istore true 2 [(.slice none 0 0), (.slice none 0 0)] 0 t11).bind fun cs5 =>
 (iload true 2 cs5 0).bind fun r1 =>
 some (.ret r1, H2))
def F215 (N lim : Nat) (a0 : Value) (H : IHeap) : RV := B215 N (F276 N) lim a0 H
def G215 (N : Nat) : G := w1 (F215 N)
theorem eq215 (N : Nat) (g276 : RF1) (lim : Nat) (a0 : Value) (H : IHeap) : ifun Tryz.prog { fn := envOf [(276, Ideal.w1 g276)], wr := [] } { promo := [1, 2, 8], share := false } N (okOf Tryz.prog { promo := [1, 2, 8], share := false } []) Tryz.f215 (.seq (.region []) (.seq (.region []) (.seq (.region []) (.seq (.region []) .leaf)))) lim [a0] H = B215 N g276 lim a0 H := by kernel_rfl
theorem sim215 (N : Nat) : SimF Tryz.prog 215 (G215 N) := by
  refine SimF.gen [(276, G276 N)] [] { promo := [1, 2, 8], share := false } N (.seq (.region []) (.seq (.region []) (.seq (.region []) (.seq (.region []) .leaf)))) Tryz.func215 (by kernel_rfl) (by kernel_rfl) (env_cons (sim276 N) env_nil) ?_
  intro lim args H r h
  unfold G215 w1 at h
  split at h
  · exact (eq215 N (F276 N) lim _ H).trans h
  · simp at h
/-- (*besom/task.Task).Enter -/
def B141 (N : Nat) (g213 : RF3) (g214 : RF4) (g215 : RF1) (lim : Nat) (t0 fn1 args2 ret3 : Value) (H : IHeap) : RV :=
 retK (callK (g213 lim t0 fn1 args2 H) fun t12 H1 =>
 (iun .not t12).bind fun t13 =>
 (boolK t13 fun b1 => bif b1 then
 (some (.ret (.bool false), H1))
 else
 callK (g214 lim t0 fn1 args2 ret3 H1) fun t18 H2 =>
 (inilc t0).bind fun t21 =>
 (paddr 5 t21).bind fun t22 =>
 (hload true 2 H2 t22).bind fun t23 =>
 callK (g215 lim t23 H2) fun t24 H3 =>
 (inilc t0).bind fun t25 =>
 (paddr 5 t25).bind fun t26 =>
 (hstore true 2 lim H3 t26 t24).bind fun H4 =>
 some (.ret (.bool true), H4)))
def F141 (N lim : Nat) (a0 a1 a2 a3 : Value) (H : IHeap) : RV := B141 N (F213 N) (F214 N) (F215 N) lim a0 a1 a2 a3 H
def G141 (N : Nat) : G := w4 (F141 N)
theorem eq141 (N : Nat) (g213 : RF3) (g214 : RF4) (g215 : RF1) (lim : Nat) (a0 a1 a2 a3 : Value) (H : IHeap) : ifun Tryz.prog { fn := envOf [(213, Ideal.w3 g213), (214, Ideal.w4 g214), (215, Ideal.w1 g215)], wr := [] } { promo := [], share := false } N (okOf Tryz.prog { promo := [], share := false } []) Tryz.f141 (.seq (.region []) (.seq (.seq (.region []) (.inl (.seq (.region []) .leaf) .leaf)) (.seq (.region []) (.seq (.region []) (.seq (.region []) .leaf))))) lim [a0, a1, a2, a3] H = B141 N g213 g214 g215 lim a0 a1 a2 a3 H := by kernel_rfl
theorem sim141 (N : Nat) : SimF Tryz.prog 141 (G141 N) := by
  refine SimF.gen [(213, G213 N), (214, G214 N), (215, G215 N)] [] { promo := [], share := false } N (.seq (.region []) (.seq (.seq (.region []) (.inl (.seq (.region []) .leaf) .leaf)) (.seq (.region []) (.seq (.region []) (.seq (.region []) .leaf))))) Tryz.func141 (by kernel_rfl) (by kernel_rfl) (env_cons (sim213 N) (env_cons (sim214 N) (env_cons (sim215 N) env_nil))) ?_
  intro lim args H r h
  unfold G141 w4 at h
  split at h
  · exact (eq141 N (F213 N) (F214 N) (F215 N) lim _ _ _ _ H).trans h
  · simp at h
/-- (besom/unwind.State).Panic -/
def B281 (N : Nat) (g276 : RF1) (lim : Nat) (s0 code1 ptr2 : Value) (H : IHeap) : RV :=
 retK ((cellsOf true 2 s0).bind fun cs1 =>
 (iload true 2 cs1 0).bind fun t7 =>
 callK (g276 lim t7 H) fun t8 H1 =>
 (istore true 2 cs1 0 t8).bind fun cs2 =>
 (iload false 1 cs2 1).bind fun t10 =>
 (istore false 1 [(.int .i64 0), (.int .i64 0), (.int .i64 0), (.bool false), (.bool false)] 0 code1).bind fun cs3 =>
 (istore false 1 cs3 1 ptr2).bind fun cs4 =>
 (istore true 5 [(.int .i64 0), (.int .i64 0), (.int .i64 0), (.bool false), (.bool false)] 0 (.agg ⟨cs4⟩)).bind fun cs5 =>
 rowK (lrow 5 1 cs5) fun m1 new1 =>
 callK (iappend false 5 32 lim H1 t10 m1 new1) fun t15 H2 =>
 (istore false 1 cs2 1 t15).bind fun cs6 =>
 (iload true 2 cs6 0).bind fun t17 =>
 (istore true 2 [(.slice none 0 0), (.slice none 0 0)] 0 t17).bind fun cs7 =>
 (iload true 2 cs7 0).bind fun r1 =>
 some (.ret r1, H2))
def F281 (N lim : Nat) (a0 a1 a2 : Value) (H : IHeap) : RV := B281 N (F276 N) lim a0 a1 a2 H
def G281 (N : Nat) : G := w3 (F281 N)
theorem eq281 (N : Nat) (g276 : RF1) (lim : Nat) (a0 a1 a2 : Value) (H : IHeap) : ifun Tryz.prog { fn := envOf [(276, Ideal.w1 g276)], wr := [] } { promo := [3, 6, 14], share := false } N (okOf Tryz.prog { promo := [3, 6, 14], share := false } []) Tryz.f281 (.seq (.region []) (.seq (.region []) (.seq (.region []) (.seq (.region []) .leaf)))) lim [a0, a1, a2] H = B281 N g276 lim a0 a1 a2 H := by kernel_rfl
theorem sim281 (N : Nat) : SimF Tryz.prog 281 (G281 N) := by
  refine SimF.gen [(276, G276 N)] [] { promo := [3, 6, 14], share := false } N (.seq (.region []) (.seq (.region []) (.seq (.region []) (.seq (.region []) .leaf)))) Tryz.func281 (by kernel_rfl) (by kernel_rfl) (env_cons (sim276 N) env_nil) ?_
  intro lim args H r h
  unfold G281 w3 at h
  split at h
  · exact (eq281 N (F276 N) lim _ _ _ H).trans h
  · simp at h
/-- (*besom/task.Task).Panic -/
def B233 (N : Nat) (g281 : RF3) (lim : Nat) (t0 code1 ptr2 : Value) (H : IHeap) : RV :=
 retK ((ibin .neq .ptr t0 (.pointer none)).bind fun t7 =>
 joinK (boolK t7 fun b1 => bif b1 then
 ((inilc t0).bind fun t10 =>
 (paddr 5 t10).bind fun t11 =>
 (hload true 2 H t11).bind fun t12 =>
 callK (g281 lim t12 code1 ptr2 H) fun t15 H1 =>
 (inilc t0).bind fun t16 =>
 (paddr 5 t16).bind fun t17 =>
 (hstore true 2 lim H1 t17 t15).bind fun H2 =>
 some (.norm ([] ++ []), H2))
 else
 some (.norm ([] ++ []), H)) fun vs1 H3 =>
 some (.ret (.tuple ⟨[]⟩), H3))
def F233 (N lim : Nat) (a0 a1 a2 : Value) (H : IHeap) : RV := B233 N (F281 N) lim a0 a1 a2 H
def G233 (N : Nat) : G := w3 (F233 N)
theorem eq233 (N : Nat) (g281 : RF3) (lim : Nat) (a0 a1 a2 : Value) (H : IHeap) : ifun Tryz.prog { fn := envOf [(281, Ideal.w3 g281)], wr := [] } { promo := [], share := false } N (okOf Tryz.prog { promo := [], share := false } []) Tryz.f233 (.seq (.region []) (.join [] [] [] (.region []) .leaf)) lim [a0, a1, a2] H = B233 N g281 lim a0 a1 a2 H := by kernel_rfl
theorem sim233 (N : Nat) : SimF Tryz.prog 233 (G233 N) := by
  refine SimF.gen [(281, G281 N)] [] { promo := [], share := false } N (.seq (.region []) (.join [] [] [] (.region []) .leaf)) Tryz.func233 (by kernel_rfl) (by kernel_rfl) (env_cons (sim281 N) env_nil) ?_
  intro lim args H r h
  unfold G233 w3 at h
  split at h
  · exact (eq233 N (F281 N) lim _ _ _ H).trans h
  · simp at h
/-- (besom/mutator.step).args -/
def B234 (N : Nat) (g163 : RF2) (lim : Nat) (s0 fn1 : Value) (H : IHeap) : RV :=
 retK ((cellsOf true 9 s0).bind fun cs1 =>
 (iload false 1 cs1 2).bind fun t9 =>
 (iidx 5 t9 fn1).bind fun t11 =>
 (paddr 0 t11).bind fun t12 =>
 (hload false 1 H t12).bind fun t13 =>
 (ilenS t13).bind fun t14 =>
 catchK 0 (iloop (fun vs1 H1 =>
 (ibin .lss .no (nthV 1 vs1) t14).bind fun t16 =>
 (boolK t16 fun b1 => bif b1 then
 (catchK 1 ((iload false 1 cs1 4).bind fun t20 =>
 (iload false 1 cs1 8).bind fun t23 =>
 (ibin .add .no t23 (nthV 1 vs1)).bind fun t25 =>
 callK (g163 lim t20 t25 H1) fun t26 H2 =>
 (istore false 1 [(.int .i64 0)] 0 t26).bind fun cs2 =>
 rowK (lrow 1 1 cs2) fun m1 new1 =>
 callK (iappend false 1 8 lim H2 (nthV 0 vs1) m1 new1) fun t28 H3 =>
 some (.norm ([t28] ++ []), H3)) fun vs2 H4 =>
 (ibin .add .no (nthV 1 vs1) (.int .i64 1)).bind fun t29 =>
 some (.norm ([(nthV 0 vs2), t29] ++ []), H4))
 else
 some (.exit 0 ([(nthV 0 vs1)] ++ []), H1))) N ([(.slice none 0 0), (.int .i64 0)] ++ []) H) fun vs3 H5 =>
 some (.ret (nthV 0 vs3), H5))
def F234 (N lim : Nat) (a0 a1 : Value) (H : IHeap) : RV := B234 N (F163 N) lim a0 a1 H
def G234 (N : Nat) : G := w2 (F234 N)
theorem eq234 (N : Nat) (g163 : RF2) (lim : Nat) (a0 a1 : Value) (H : IHeap) : ifun Tryz.prog { fn := envOf [(163, Ideal.w2 g163)], wr := [] } { promo := [2, 27], share := false } N (okOf Tryz.prog { promo := [2, 27], share := false } []) Tryz.f234 (.seq (.region []) (.seq (.region []) (.seq (.seq (.region []) (.block [5] [] [27] (.loop [5, 15] [] [27] (.seq (.region []) (.seq (.inl .leaf .leaf) (.seq (.block [5] [] [27] (.seq (.region []) (.region []))) (.region []))))))) (.seq (.region []) .leaf)))) lim [a0, a1] H = B234 N g163 lim a0 a1 H := by kernel_rfl
theorem sim234 (N : Nat) : SimF Tryz.prog 234 (G234 N) := by
  refine SimF.gen [(163, G163 N)] [] { promo := [2, 27], share := false } N (.seq (.region []) (.seq (.region []) (.seq (.seq (.region []) (.block [5] [] [27] (.loop [5, 15] [] [27] (.seq (.region []) (.seq (.inl .leaf .leaf) (.seq (.block [5] [] [27] (.seq (.region []) (.region []))) (.region []))))))) (.seq (.region []) .leaf)))) Tryz.func234 (by kernel_rfl) (by kernel_rfl) (env_cons (sim163 N) env_nil) ?_
  intro lim args H r h
  unfold G234 w2 at h
  split at h
  · exact (eq234 N (F163 N) lim _ _ H).trans h
  · simp at h
/-- (besom/unwind.State).Exit -/
def B285 (N : Nat) (g276 : RF1) (lim : Nat) (s0 : Value) (H : IHeap) : RV :=
 retK ((cellsOf true 2 s0).bind fun cs1 =>
 (iload true 2 cs1 0).bind fun t3 =>
 callK (g276 lim t3 H) fun t4 H1 =>
 (istore true 2 cs1 0 t4).bind fun cs2 =>
 (iload false 1 cs2 1).bind fun t6 =>
 (istore false 1 [(.int .i64 0), (.int .i64 0), (.int .i64 0), (.bool false), (.bool false)] 3 (.bool true)).bind fun cs3 =>
 (istore true 5 [(.int .i64 0), (.int .i64 0), (.int .i64 0), (.bool false), (.bool false)] 0 (.agg ⟨cs3⟩)).bind fun cs4 =>
 rowK (lrow 5 1 cs4) fun m1 new1 =>
 callK (iappend false 5 32 lim H1 t6 m1 new1) fun t9 H2 =>
 (istore false 1 cs2 1 t9).bind fun cs5 =>
 (iload true 2 cs5 0).bind fun t11 =>
 (istore true 2 [(.slice none 0 0), (.slice none 0 0)] 0 t11).bind fun cs6 =>
 (iload true 2 cs6 0).bind fun r1 =>
 some (.ret r1, H2))
def F285 (N lim : Nat) (a0 : Value) (H : IHeap) : RV := B285 N (F276 N) lim a0 H
def G285 (N : Nat) : G := w1 (F285 N)
theorem eq285 (N : Nat) (g276 : RF1) (lim : Nat) (a0 : Value) (H : IHeap) : ifun Tryz.prog { fn := envOf [(276, Ideal.w1 g276)], wr := [] } { promo := [1, 2, 8], share := false } N (okOf Tryz.prog { promo := [1, 2, 8], share := false } []) Tryz.f285 (.seq (.region []) (.seq (.region []) (.seq (.region []) (.seq (.region []) .leaf)))) lim [a0] H = B285 N g276 lim a0 H := by kernel_rfl
theorem sim285 (N : Nat) : SimF Tryz.prog 285 (G285 N) := by
  refine SimF.gen [(276, G276 N)] [] { promo := [1, 2, 8], share := false } N (.seq (.region []) (.seq (.region []) (.seq (.region []) (.seq (.region []) .leaf)))) Tryz.func285 (by kernel_rfl) (by kernel_rfl) (env_cons (sim276 N) env_nil) ?_
  intro lim args H r h
  unfold G285 w1 at h
  split at h
  · exact (eq285 N (F276 N) lim _ H).trans h
  · simp at h
/-- (*besom/task.Task).Exit -/
def B239 (N : Nat) (g285 : RF1) (lim : Nat) (t0 : Value) (H : IHeap) : RV :=
 retK ((ibin .neq .ptr t0 (.pointer none)).bind fun t3 =>
 joinK (boolK t3 fun b1 => bif b1 then
 ((inilc t0).bind fun t6 =>
 (paddr 5 t6).bind fun t7 =>
 (hload true 2 H t7).bind fun t8 =>
 callK (g285 lim t8 H) fun t9 H1 =>
 (inilc t0).bind fun t10 =>
 (paddr 5 t10).bind fun t11 =>
 (hstore true 2 lim H1 t11 t9).bind fun H2 =>
 some (.norm ([] ++ []), H2))
 else
 some (.norm ([] ++ []), H)) fun vs1 H3 =>
 some (.ret (.tuple ⟨[]⟩), H3))
def F239 (N lim : Nat) (a0 : Value) (H : IHeap) : RV := B239 N (F285 N) lim a0 H
def G239 (N : Nat) : G := w1 (F239 N)
theorem eq239 (N : Nat) (g285 : RF1) (lim : Nat) (a0 : Value) (H : IHeap) : ifun Tryz.prog { fn := envOf [(285, Ideal.w1 g285)], wr := [] } { promo := [], share := false } N (okOf Tryz.prog { promo := [], share := false } []) Tryz.f239 (.seq (.region []) (.join [] [] [] (.region []) .leaf)) lim [a0] H = B239 N g285 lim a0 H := by kernel_rfl
theorem sim239 (N : Nat) : SimF Tryz.prog 239 (G239 N) := by
  refine SimF.gen [(285, G285 N)] [] { promo := [], share := false } N (.seq (.region []) (.join [] [] [] (.region []) .leaf)) Tryz.func239 (by kernel_rfl) (by kernel_rfl) (env_cons (sim285 N) env_nil) ?_
  intro lim args H r h
  unfold G239 w1 at h
  split at h
  · exact (eq239 N (F285 N) lim _ H).trans h
  · simp at h
/-- (besom/mutator.step).calls -/
def B169 (N : Nat) (g91 : RF1) (g141 : RF4) (g163 : RF2) (g168 : RF1) (g233 : RF3) (g234 : RF2) (g239 : RF1) (lim : Nat) (s0 : Value) (H : IHeap) : RV :=
 retK ((cellsOf true 9 s0).bind fun cs1 =>
 (iload true 4 cs1 5).bind fun t11 =>
 (iload false 1 cs1 4).bind fun t13 =>
 (istore true 4 [(.int .i64 0), (.int .i64 0), (.int .i64 0), (.int .i64 0)] 0 t11).bind fun cs2 =>
 (iload false 1 cs2 0).bind fun t15 =>
 catchK 0 ((ibin .eql .no t15 (.int .i64 21)).bind fun t19 =>
 joinK (boolK t19 fun b1 => bif b1 then
 ((iload false 1 cs2 1).bind fun t21 =>
 (iload false 1 cs1 2).bind fun t24 =>
 (iload false 1 cs2 2).bind fun t26 =>
 (iidx 5 t24 t26).bind fun t27 =>
 (paddr 1 t27).bind fun t28 =>
 (hload false 1 H t28).bind fun t29 =>
 (ibin .eql .no t29 (.int .i64 0)).bind fun t30 =>
 joinK (boolK t30 fun b2 => bif b2 then
 (some (.norm ([(.int .i64 (-1))] ++ []), H))
 else
 some (.norm ([t21] ++ []), H)) fun vs1 H1 =>
 (iload false 1 cs2 2).bind fun t33 =>
 (iload true 9 cs1 0).bind fun t34 =>
 (iload false 1 cs2 2).bind fun t36 =>
 callK (g234 lim t34 t36 H1) fun t37 H2 =>
 callK (g141 lim t13 t33 t37 (nthV 0 vs1) H2) fun t39 H3 =>
 (iun .not t39).bind fun t40 =>
 (boolK t40 fun b3 => bif b3 then
 ((iload false 1 cs2 2).bind fun t43 =>
 none)
 else
 some (.norm ([] ++ [.agg ⟨[(.int .i64 0), (.int .i64 0), (.int .i64 0), (.int .i64 0), (.int .i64 0), (.bool false), (.slice none 0 0)]⟩]), H3)))
 else
 (ibin .eql .no t15 (.int .i64 22)).bind fun t46 =>
 joinK (boolK t46 fun b4 => bif b4 then
 ((iload false 1 cs1 2).bind fun t49 =>
 callK (g91 lim t13 H) fun t51 H4 =>
 (iidx 5 t49 t51).bind fun t52 =>
 (paddr 1 t52).bind fun t53 =>
 (hload false 1 H4 t53).bind fun t54 =>
 (ibin .neq .no t54 (.int .i64 0)).bind fun t55 =>
 joinK (boolK t55 fun b5 => bif b5 then
 ((iload false 1 cs2 1).bind fun t59 =>
 callK (g163 lim t13 t59 H4) fun t60 H5 =>
 none)
 else
 some (.norm ([] ++ []), H4)) fun vs2 H6 =>
 none)
 else
 (ibin .eql .no t15 (.int .i64 23)).bind fun t65 =>
 (boolK t65 fun b6 => bif b6 then
 ((iload true 9 cs1 0).bind fun t66 =>
 (iload false 1 cs2 2).bind fun t68 =>
 callK (g234 lim t66 t68 H) fun t69 H7 =>
 (iload true 9 cs1 0).bind fun t70 =>
 callK (g168 lim t70 H7) fun t71 H8 =>
 (iload false 1 cs2 2).bind fun t73 =>
 (istore false 1 [(.int .i64 0), (.int .i64 0), (.int .i64 0), (.int .i64 0), (.int .i64 0), (.bool false), (.slice none 0 0)] 0 (.int .i64 1)).bind fun cs3 =>
 (istore false 1 cs3 4 t73).bind fun cs4 =>
 (istore false 1 cs4 6 t69).bind fun cs5 =>
 (istore true 7 [(.int .i64 0), (.int .i64 0), (.int .i64 0), (.int .i64 0), (.int .i64 0), (.bool false), (.slice none 0 0)] 0 (.agg ⟨cs5⟩)).bind fun cs6 =>
 (iload true 7 cs6 0).bind fun r1 =>
 some (.ret r1, H8))
 else
 (ibin .eql .no t15 (.int .i64 24)).bind fun t77 =>
 (boolK t77 fun b7 => bif b7 then
 ((iload false 1 cs2 2).bind fun t80 =>
 (iload true 9 cs1 0).bind fun t81 =>
 (iload false 1 cs2 2).bind fun t83 =>
 callK (g234 lim t81 t83 H) fun t84 H9 =>
 none)
 else
 (ibin .eql .no t15 (.int .i64 25)).bind fun t91 =>
 joinK (boolK t91 fun b8 => bif b8 then
 ((iload false 1 cs2 1).bind fun t95 =>
 callK (g163 lim t13 t95 H) fun t96 H10 =>
 (iload false 1 cs2 2).bind fun t99 =>
 callK (g163 lim t13 t99 H10) fun t100 H11 =>
 callK (g233 lim t13 t96 t100 H11) fun t101 H12 =>
 some (.norm ([] ++ [.agg ⟨[(.int .i64 0), (.int .i64 0), (.int .i64 0), (.int .i64 0), (.int .i64 0), (.bool false), (.slice none 0 0)]⟩]), H12))
 else
 (ibin .eql .no t15 (.int .i64 26)).bind fun t103 =>
 (boolK t103 fun b9 => bif b9 then
 (none)
 else
 (ibin .eql .no t15 (.int .i64 27)).bind fun t121 =>
 (boolK t121 fun b10 => bif b10 then
 (callK (g239 lim t13 H) fun t123 H13 =>
 some (.norm ([] ++ [.agg ⟨[(.int .i64 0), (.int .i64 0), (.int .i64 0), (.int .i64 0), (.int .i64 0), (.bool false), (.slice none 0 0)]⟩]), H13))
 else
 (iload true 9 cs1 0).bind fun t16 =>
 callK (g168 lim t16 H) fun t17 H14 =>
 (istore true 7 [(.int .i64 0), (.int .i64 0), (.int .i64 0), (.int .i64 0), (.int .i64 0), (.bool false), (.slice none 0 0)] 0 t17).bind fun cs7 =>
 (iload true 7 cs7 0).bind fun r2 =>
 some (.ret r2, H14)))) fun vs3 H15 =>
 (aggs (nthV 0 (vs3.drop 0))).bind fun cs8 =>
 some (.norm ([] ++ [.agg ⟨cs8⟩]), H15)))) fun vs4 H16 =>
 (aggs (nthV 0 (vs4.drop 0))).bind fun cs9 =>
 some (.norm ([] ++ [.agg ⟨cs9⟩]), H16)) fun vs5 H17 =>
 (aggs (nthV 0 (vs5.drop 0))).bind fun cs10 =>
 some (.norm ([] ++ [.agg ⟨cs10⟩]), H17)) fun vs6 H18 =>
 (aggs (nthV 0 (vs6.drop 0))).bind fun cs11 =>
 (istore true 7 cs11 0 (.agg ⟨[(.int .i64 0), (.int .i64 0), (.int .i64 0), (.int .i64 0), (.int .i64 0), (.bool false), (.slice none 0 0)]⟩)).bind fun cs12 =>
 (iload true 7 cs12 0).bind fun r3 =>
 some (.ret r3, H18))
def F169 (N lim : Nat) (a0 : Value) (H : IHeap) : RV := B169 N (F91 N) (F141 N) (F163 N) (F168 N) (F233 N) (F234 N) (F239 N) lim a0 H
def G169 (N : Nat) : G := w1 (F169 N)
theorem eq169 (N : Nat) (g91 : RF1) (g141 : RF4) (g163 : RF2) (g168 : RF1) (g233 : RF3) (g234 : RF2) (g239 : RF1) (lim : Nat) (a0 : Value) (H : IHeap) : ifun Tryz.prog { fn := envOf [(91, Ideal.w1 g91), (141, Ideal.w4 g141), (163, Ideal.w2 g163), (168, Ideal.w1 g168), (233, Ideal.w3 g233), (234, Ideal.w2 g234), (239, Ideal.w1 g239)], wr := [91, 141, 163, 233, 234, 237] } { promo := [1, 2, 3], share := false } N (okOf Tryz.prog { promo := [1, 2, 3], share := false } [91, 141, 163, 233, 234, 237]) Tryz.f169 (.seq (.region []) (.seq (.region []) (.seq (.seq (.region []) (.block [] [2] [2] (.seq (.region []) (.join [] [2] [2] (.seq (.region []) (.seq (.seq (.region []) (.join [5] [] [] (.region []) .leaf)) (.seq (.region []) (.inl (.seq (.region []) .leaf) .leaf)))) (.seq (.region []) (.join [] [2] [2] (.seq (.seq (.region []) (.join [] [] [] (.region []) .leaf)) (.region [])) (.seq (.region []) (.inl (.seq (.region []) (.seq (.region []) (.seq (.region []) .leaf))) (.seq (.region []) (.inl (.seq (.seq (.region []) (.inl (.seq (.region []) .leaf) .leaf)) (.seq (.region []) .leaf)) (.seq (.region []) (.join [] [2] [2] (.region []) (.seq (.region []) (.inl (.seq (.region []) (.seq (.region []) (.seq (.region []) .leaf))) (.seq (.region []) (.inl (.region []) (.seq (.region []) .leaf))))))))))))))))) (.seq (.region []) .leaf)))) lim [a0] H = B169 N g91 g141 g163 g168 g233 g234 g239 lim a0 H := by kernel_rfl
theorem sim169 (N : Nat) : SimF Tryz.prog 169 (G169 N) := by
  refine SimF.gen [(91, G91 N), (141, G141 N), (163, G163 N), (168, G168 N), (233, G233 N), (234, G234 N), (239, G239 N)] [91, 141, 163, 233, 234, 237] { promo := [1, 2, 3], share := false } N (.seq (.region []) (.seq (.region []) (.seq (.seq (.region []) (.block [] [2] [2] (.seq (.region []) (.join [] [2] [2] (.seq (.region []) (.seq (.seq (.region []) (.join [5] [] [] (.region []) .leaf)) (.seq (.region []) (.inl (.seq (.region []) .leaf) .leaf)))) (.seq (.region []) (.join [] [2] [2] (.seq (.seq (.region []) (.join [] [] [] (.region []) .leaf)) (.region [])) (.seq (.region []) (.inl (.seq (.region []) (.seq (.region []) (.seq (.region []) .leaf))) (.seq (.region []) (.inl (.seq (.seq (.region []) (.inl (.seq (.region []) .leaf) .leaf)) (.seq (.region []) .leaf)) (.seq (.region []) (.join [] [2] [2] (.region []) (.seq (.region []) (.inl (.seq (.region []) (.seq (.region []) (.seq (.region []) .leaf))) (.seq (.region []) (.inl (.region []) (.seq (.region []) .leaf))))))))))))))))) (.seq (.region []) .leaf)))) Tryz.func169 (by kernel_rfl) (by kernel_rfl) (env_cons (sim91 N) (env_cons (sim141 N) (env_cons (sim163 N) (env_cons (sim168 N) (env_cons (sim233 N) (env_cons (sim234 N) (env_cons (sim239 N) env_nil))))))) ?_
  intro lim args H r h
  unfold G169 w1 at h
  split at h
  · exact (eq169 N (F91 N) (F141 N) (F163 N) (F168 N) (F233 N) (F234 N) (F239 N) lim _ H).trans h
  · simp at h
end Go.Ideal
