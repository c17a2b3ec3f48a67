/- This text proves no statement of the seat: it says what functions of the program do on the ideal machine, part 1. By program (emitall.py). -/
import Derived.Test.YtganefjdidncbaaGreatDoorFa
namespace Go.Ideal
open Go.Proofs
set_option maxRecDepth 100000
set_option linter.unusedVariables false
/-- (*besom/task.Task).Life -/
def B69 (N : Nat) (g22 : RF1) (g44 : RF1) (g139 : RF1) (g140 : RF1) (g141 : RF2) (lim : Nat) (t0 : Value) (H : IHeap) : RV :=
 retK ((ibin .eql .ptr t0 (.pointer none)).bind fun t10 =>
 (boolK t10 fun b1 => bif b1 then
 ((istore true 7 [(.int .i64 0), (.int .i64 0), (.int .i64 0), (.slice none 0 0), (.slice none 0 0), (.slice none 0 0), (.bool false)] 0 (.agg ⟨[(.int .i64 0), (.int .i64 0), (.int .i64 0), (.slice none 0 0), (.slice none 0 0), (.slice none 0 0), (.bool false)]⟩)).bind fun cs1 =>
 (iload true 7 cs1 0).bind fun r1 =>
 some (.ret r1, H))
 else
 (inilc t0).bind fun t13 =>
 (paddr 3 t13).bind fun t14 =>
 (hload false 1 H t14).bind fun t15 =>
 callK (g139 H.next t15 H) fun t16 H1 =>
 callK (g44 H1.next t0 H1) fun t18 H2 =>
 (inilc t0).bind fun t20 =>
 (paddr 5 t20).bind fun t21 =>
 (paddr 1 t21).bind fun t22 =>
 (hload false 1 H2 t22).bind fun t23 =>
 callK (g140 lim t23 H2) fun t24 H3 =>
 (istore false 1 [(.int .i64 0), (.int .i64 0), (.int .i64 0), (.slice none 0 0), (.slice none 0 0), (.slice none 0 0), (.bool false)] 1 t16).bind fun cs2 =>
 (istore false 1 cs2 2 t18).bind fun cs3 =>
 (istore false 1 cs3 5 t24).bind fun cs4 =>
 (istore true 7 [(.int .i64 0), (.int .i64 0), (.int .i64 0), (.slice none 0 0), (.slice none 0 0), (.slice none 0 0), (.bool false)] 0 (.agg ⟨cs4⟩)).bind fun cs5 =>
 (inilc t0).bind fun t27 =>
 (paddr 4 t27).bind fun t28 =>
 (hload false 1 H3 t28).bind fun t29 =>
 (ilenS t29).bind fun t30 =>
 catchK 0 (iloop (fun vs1 H4 =>
 (ibin .lss .no (nthV 0 vs1) t30).bind fun t32 =>
 (boolK t32 fun b2 => bif b2 then
 (catchK 1 ((iidx 5 t29 (nthV 0 vs1)).bind fun t34 =>
 (hload true 5 H4 t34).bind fun t35 =>
 (istore true 5 [(.int .i64 0), (.int .i64 0), (.int .i64 0), (.int .i64 0), (.slice none 0 0)] 0 t35).bind fun cs6 =>
 (aggs (nthV 0 (vs1.drop 1))).bind fun cs7 =>
 (iload false 1 cs7 3).bind fun t37 =>
 callK (g141 lim t0 (nthV 0 vs1) H4) fun t40 H5 =>
 (istore true 9 [(.int .i64 0), (.int .i64 0), (.int .i64 0), (.bool false), (.bool false), (.int .i64 0), (.bool false), (.slice none 0 0), (.slice none 0 0)] 0 t40).bind fun cs8 =>
 rowK (lrow 9 1 cs8) fun m1 new1 =>
 callK (iappend false 9 96 lim H5 t37 m1 new1) fun t42 H6 =>
 (aggs (nthV 0 (vs1.drop 1))).bind fun cs9 =>
 (istore false 1 cs9 3 t42).bind fun cs10 =>
 (iload false 1 cs6 4).bind fun t45 =>
 (ilenS t45).bind fun t46 =>
 catchK 2 (iloop (fun vs2 H7 =>
 (ibin .lss .no (nthV 1 vs2) t46).bind fun t48 =>
 (boolK t48 fun b3 => bif b3 then
 (catchK 3 ((iidx 2 t45 (nthV 1 vs2)).bind fun t49 =>
 (hload true 2 H7 t49).bind fun t50 =>
 (istore true 2 [(.int .i64 0), (.slice none 0 0)] 0 t50).bind fun cs11 =>
 (iload false 1 cs11 0).bind fun t53 =>
 (iload false 1 cs11 1).bind fun t55 =>
 callK (g22 lim t55 H7) fun t56 H8 =>
 (istore false 1 [(.int .i64 0), (.slice none 0 0)] 0 t53).bind fun cs12 =>
 (istore false 1 cs12 1 t56).bind fun cs13 =>
 (istore true 2 [(.int .i64 0), (.slice none 0 0)] 0 (.agg ⟨cs13⟩)).bind fun cs14 =>
 rowK (lrow 2 1 cs14) fun m2 new2 =>
 callK (iappend false 2 32 lim H8 (nthV 0 vs2) m2 new2) fun t59 H9 =>
 some (.norm ([t59] ++ []), H9)) fun vs3 H10 =>
 (ibin .add .no (nthV 1 vs2) (.int .i64 1)).bind fun t60 =>
 some (.norm ([(nthV 0 vs3), t60] ++ []), H10))
 else
 some (.exit 2 ([(nthV 0 vs2)] ++ []), H7))) N ([(.slice none 0 0), (.int .i64 0)] ++ []) H6) fun vs4 H11 =>
 (iload false 1 cs10 4).bind fun t62 =>
 (istore false 1 [(.slice none 0 0)] 0 (nthV 0 vs4)).bind fun cs15 =>
 rowK (lrow 1 1 cs15) fun m3 new3 =>
 callK (iappend false 1 24 lim H11 t62 m3 new3) fun t65 H12 =>
 (istore false 1 cs10 4 t65).bind fun cs16 =>
 some (.norm ([] ++ [.agg ⟨cs16⟩]), H12)) fun vs5 H13 =>
 (ibin .add .no (nthV 0 vs1) (.int .i64 1)).bind fun t67 =>
 (aggs (nthV 0 (vs5.drop 0))).bind fun cs17 =>
 some (.norm ([t67] ++ [.agg ⟨cs17⟩]), H13))
 else
 (aggs (nthV 0 (vs1.drop 1))).bind fun cs18 =>
 some (.exit 0 ([] ++ [.agg ⟨cs18⟩]), H4))) N ([(.int .i64 0)] ++ [.agg ⟨cs5⟩]) H3) fun vs6 H14 =>
 (aggs (nthV 0 (vs6.drop 0))).bind fun cs19 =>
 (iload true 7 cs19 0).bind fun t68 =>
 (istore true 7 [(.int .i64 0), (.int .i64 0), (.int .i64 0), (.slice none 0 0), (.slice none 0 0), (.slice none 0 0), (.bool false)] 0 t68).bind fun cs20 =>
 (iload true 7 cs20 0).bind fun r2 =>
 some (.ret r2, H14)))
def F69 (N lim : Nat) (a0 : Value) (H : IHeap) : RV := B69 N (F22 N) (F44 N) (F139 N) (F140 N) (F141 N) lim a0 H
def G69 (N : Nat) : G := w1 (F69 N)
theorem eq69 (N : Nat) (g22 : RF1) (g44 : RF1) (g139 : RF1) (g140 : RF1) (g141 : RF2) (lim : Nat) (a0 : Value) (H : IHeap) : ifun Tryz.prog { fn := envOf [(22, Ideal.w1 g22), (44, Ideal.w1 g44), (139, Ideal.w1 g139), (140, Ideal.w1 g140), (141, Ideal.w2 g141)], wr := [22, 140, 141] } { promo := [2, 3, 5, 8, 41, 58, 64], share := false } N (okOf Tryz.prog { promo := [2, 3, 5, 8, 41, 58, 64], share := false } [22, 140, 141]) Tryz.f69 (.seq (.region []) (.seq (.seq (.region []) (.inl (.seq (.region []) .leaf) .leaf)) (.seq (.region []) (.seq (.seq (.region []) (.block [] [3] [3, 5, 8, 41, 58, 64] (.loop [31] [3] [3, 5, 8, 41, 58, 64] (.seq (.region []) (.seq (.inl .leaf .leaf) (.seq (.block [] [3] [3, 5, 8, 41, 58, 64] (.seq (.region []) (.seq (.region []) (.seq (.region []) (.seq (.seq (.region []) (.block [6] [] [8, 58] (.loop [6, 47] [] [8, 58] (.seq (.region []) (.seq (.inl .leaf .leaf) (.seq (.block [6] [] [8, 58] (.seq (.region []) (.region []))) (.region []))))))) (.region [])))))) (.region []))))))) (.seq (.region []) .leaf))))) lim [a0] H = B69 N g22 g44 g139 g140 g141 lim a0 H := by kernel_rfl
theorem sim69 (N : Nat) : SimF Tryz.prog 69 (G69 N) := by
  refine SimF.gen [(22, G22 N), (44, G44 N), (139, G139 N), (140, G140 N), (141, G141 N)] [22, 140, 141] { promo := [2, 3, 5, 8, 41, 58, 64], share := false } N (.seq (.region []) (.seq (.seq (.region []) (.inl (.seq (.region []) .leaf) .leaf)) (.seq (.region []) (.seq (.seq (.region []) (.block [] [3] [3, 5, 8, 41, 58, 64] (.loop [31] [3] [3, 5, 8, 41, 58, 64] (.seq (.region []) (.seq (.inl .leaf .leaf) (.seq (.block [] [3] [3, 5, 8, 41, 58, 64] (.seq (.region []) (.seq (.region []) (.seq (.region []) (.seq (.seq (.region []) (.block [6] [] [8, 58] (.loop [6, 47] [] [8, 58] (.seq (.region []) (.seq (.inl .leaf .leaf) (.seq (.block [6] [] [8, 58] (.seq (.region []) (.region []))) (.region []))))))) (.region [])))))) (.region []))))))) (.seq (.region []) .leaf))))) Tryz.func69 (by kernel_rfl) (by kernel_rfl) (env_cons (sim22 N) (env_cons (sim44 N) (env_cons (sim139 N) (env_cons (sim140 N) (env_cons (sim141 N) env_nil))))) ?_
  intro lim args H r h
  unfold G69 w1 at h
  split at h
  · exact (eq69 N (F22 N) (F44 N) (F139 N) (F140 N) (F141 N) lim _ H).trans h
  · simp at h
/-- (*besom/task.Task).Value -/
def B162 (N : Nat) (g158 : RF1) (lim : Nat) (t0 : Value) (H : IHeap) : RV :=
 retK ((ibin .eql .ptr t0 (.pointer none)).bind fun t7 =>
 (boolK t7 fun b1 => bif b1 then
 (some (.ret (.tuple ⟨[(.int .i64 0), (.bool false)]⟩), H))
 else
 (inilc t0).bind fun t10 =>
 (paddr 7 t10).bind fun t11 =>
 (hload false 1 H t11).bind fun t12 =>
 callK (g158 H.next t0 H) fun t14 H1 =>
 (ibin .sub .no t14 (.int .i64 1)).bind fun t15 =>
 (istore false 1 [(.int .i64 0), (.int .i64 0)] 0 t15).bind fun cs1 =>
 (istore false 1 cs1 1 (.int .i64 0)).bind fun cs2 =>
 (ilookup 3 (.int .i64 0) true H1 t12 (.agg ⟨cs2⟩)).bind fun t17 =>
 (iextract 0 t17).bind fun t18 =>
 (iextract 1 t17).bind fun t19 =>
 some (.ret (.tuple ⟨[t18, t19]⟩), H1)))
def F162 (N lim : Nat) (a0 : Value) (H : IHeap) : RV := B162 N (F158 N) lim a0 H
def G162 (N : Nat) : G := w1 (F162 N)
theorem eq162 (N : Nat) (g158 : RF1) (lim : Nat) (a0 : Value) (H : IHeap) : ifun Tryz.prog { fn := envOf [(158, Ideal.w1 g158)], wr := [] } { promo := [], share := false } N (okOf Tryz.prog { promo := [], share := false } []) Tryz.f162 (.seq (.region []) (.seq (.seq (.region []) (.inl (.seq (.region []) .leaf) .leaf)) (.seq (.region []) (.seq (.region []) .leaf)))) lim [a0] H = B162 N g158 lim a0 H := by kernel_rfl
theorem sim162 (N : Nat) : SimF Tryz.prog 162 (G162 N) := by
  refine SimF.gen [(158, G158 N)] [] { promo := [], share := false } N (.seq (.region []) (.seq (.seq (.region []) (.inl (.seq (.region []) .leaf) .leaf)) (.seq (.region []) (.seq (.region []) .leaf)))) Tryz.func162 (by kernel_rfl) (by kernel_rfl) (env_cons (sim158 N) env_nil) ?_
  intro lim args H r h
  unfold G162 w1 at h
  split at h
  · exact (eq162 N (F158 N) lim _ H).trans h
  · simp at h
/-- (*besom/task.Task).Deferred -/
def B164 (N : Nat) (g158 : RF1) (lim : Nat) (t0 : Value) (H : IHeap) : RV :=
 retK (callK (g158 H.next t0 H) fun t4 H1 =>
 (ibin .gtr .no t4 (.int .i64 0)).bind fun t5 =>
 (gval true t5).bind fun w1 => grpK (bif w1 then
 ((inilc t0).bind fun t8 =>
 (paddr 5 t8).bind fun t9 =>
 (paddr 0 t9).bind fun t10 =>
 (hload false 1 H1 t10).bind fun t11 =>
 callK (g158 H1.next t0 H1) fun t13 H3 =>
 (ibin .sub .no t13 (.int .i64 1)).bind fun t14 =>
 (iidx 3 t11 t14).bind fun t15 =>
 (paddr 1 t15).bind fun t16 =>
 (hload false 1 H3 t16).bind fun t17 =>
 some ([t17], H3))
 else some ([Value.tuple #[]], H1)) fun vs1 H2 =>
 (pickK t5 (nthV 0 vs1) (.bool false)).bind fun t18 =>
 some (.ret t18, H2))
def F164 (N lim : Nat) (a0 : Value) (H : IHeap) : RV := B164 N (F158 N) lim a0 H
def G164 (N : Nat) : G := w1 (F164 N)
theorem eq164 (N : Nat) (g158 : RF1) (lim : Nat) (a0 : Value) (H : IHeap) : ifun Tryz.prog { fn := envOf [(158, Ideal.w1 g158)], wr := [] } { promo := [], share := false } N (okOf Tryz.prog { promo := [], share := false } []) Tryz.f164 (.seq (.region []) (.seq (.region [[17]]) .leaf)) lim [a0] H = B164 N g158 lim a0 H := by kernel_rfl
theorem sim164 (N : Nat) : SimF Tryz.prog 164 (G164 N) := by
  refine SimF.gen [(158, G158 N)] [] { promo := [], share := false } N (.seq (.region []) (.seq (.region [[17]]) .leaf)) Tryz.func164 (by kernel_rfl) (by kernel_rfl) (env_cons (sim158 N) env_nil) ?_
  intro lim args H r h
  unfold G164 w1 at h
  split at h
  · exact (eq164 N (F158 N) lim _ H).trans h
  · simp at h
/-- slices.Clone[[]besom/unwind.Mark,besom/unwind.Mark] -/
def B315 (N : Nat) (lim : Nat) (s0 : Value) (H : IHeap) : RV :=
 retK ((ibin .eql .slice s0 (.slice none 0 0)).bind fun t4 =>
 (boolK t4 fun b1 => bif b1 then
 (some (.ret (.slice none 0 0), H))
 else
 rowK (hrow 3 (H.push (.cells [] 0)) s0) fun m1 new1 =>
 callK (iappend false 3 16 lim (H.push (.cells [] 0)) (slc 3 H.next 0 0 1) m1 new1) fun t7 H1 =>
 some (.ret t7, H1)))
def F315 (N lim : Nat) (a0 : Value) (H : IHeap) : RV := B315 N lim a0 H
def G315 (N : Nat) : G := w1 (F315 N)
theorem eq315 (N : Nat) (lim : Nat) (a0 : Value) (H : IHeap) : ifun Tryz.prog { fn := envOf [], wr := [] } { promo := [], share := false } N (okOf Tryz.prog { promo := [], share := false } []) Tryz.f315 (.seq (.region []) (.seq (.seq (.region []) (.inl (.seq (.region []) .leaf) .leaf)) (.seq (.region []) .leaf))) lim [a0] H = B315 N lim a0 H := by kernel_rfl
theorem sim315 (N : Nat) : SimF Tryz.prog 315 (G315 N) := by
  refine SimF.gen [] [] { promo := [], share := false } N (.seq (.region []) (.seq (.seq (.region []) (.inl (.seq (.region []) .leaf) .leaf)) (.seq (.region []) .leaf))) Tryz.func315 (by kernel_rfl) (by kernel_rfl) env_nil ?_
  intro lim args H r h
  unfold G315 w1 at h
  split at h
  · exact (eq315 N lim _ H).trans h
  · simp at h
/-- (besom/unwind.State).own -/
def B284 (N : Nat) (g140 : RF1) (g315 : RF1) (lim : Nat) (s0 : Value) (H : IHeap) : RV :=
 retK ((cellsOf true 2 s0).bind fun cs1 =>
 (iload false 1 cs1 0).bind fun t4 =>
 callK (g315 lim t4 H) fun t5 H1 =>
 (iload false 1 cs1 1).bind fun t7 =>
 callK (g140 lim t7 H1) fun t8 H2 =>
 (istore false 1 [(.slice none 0 0), (.slice none 0 0)] 0 t5).bind fun cs2 =>
 (istore false 1 cs2 1 t8).bind fun cs3 =>
 (istore true 2 [(.slice none 0 0), (.slice none 0 0)] 0 (.agg ⟨cs3⟩)).bind fun cs4 =>
 (iload true 2 cs4 0).bind fun r1 =>
 some (.ret r1, H2))
def F284 (N lim : Nat) (a0 : Value) (H : IHeap) : RV := B284 N (F140 N) (F315 N) lim a0 H
def G284 (N : Nat) : G := w1 (F284 N)
theorem eq284 (N : Nat) (g140 : RF1) (g315 : RF1) (lim : Nat) (a0 : Value) (H : IHeap) : ifun Tryz.prog { fn := envOf [(140, Ideal.w1 g140), (315, Ideal.w1 g315)], wr := [140, 315] } { promo := [1, 2], share := false } N (okOf Tryz.prog { promo := [1, 2], share := false } [140, 315]) Tryz.f284 (.seq (.region []) (.seq (.region []) .leaf)) lim [a0] H = B284 N g140 g315 lim a0 H := by kernel_rfl
theorem sim284 (N : Nat) : SimF Tryz.prog 284 (G284 N) := by
  refine SimF.gen [(140, G140 N), (315, G315 N)] [140, 315] { promo := [1, 2], share := false } N (.seq (.region []) (.seq (.region []) .leaf)) Tryz.func284 (by kernel_rfl) (by kernel_rfl) (env_cons (sim140 N) (env_cons (sim315 N) env_nil)) ?_
  intro lim args H r h
  unfold G284 w1 at h
  split at h
  · exact (eq284 N (F140 N) (F315 N) lim _ H).trans h
  · simp at h
/-- (besom/unwind.State).aborted -/
def B286 (N : Nat) (lim : Nat) (s0 n1 : Value) (H : IHeap) : RV :=
 retK ((cellsOf true 2 s0).bind fun cs1 =>
 (iload false 1 cs1 1).bind fun t7 =>
 (ilenS t7).bind fun t8 =>
 (ibin .sub .no t8 (.int .i64 2)).bind fun t9 =>
 catchK 0 (iloop (fun vs1 H1 =>
 (ibin .geq .no (nthV 0 vs1) (.int .i64 0)).bind fun t11 =>
 (gval true t11).bind fun w1 => grpK (bif w1 then
 ((iload false 1 cs1 1).bind fun t14 =>
 (iidx 5 t14 (nthV 0 vs1)).bind fun t16 =>
 (paddr 2 t16).bind fun t17 =>
 (hload false 1 H1 t17).bind fun t18 =>
 (ibin .neq .no t18 n1).bind fun t20 =>
 some ([t20], H1))
 else some ([Value.tuple #[]], H1)) fun vs2 H2 =>
 (pickK t11 (nthV 0 vs2) (.bool false)).bind fun t21 =>
 (boolK t21 fun b2 => bif b2 then
 (catchK 1 ((ibin .sub .no (nthV 0 vs1) (.int .i64 1)).bind fun t23 =>
 some (.norm ([t23] ++ []), H2)) fun vs3 H3 =>
 some (.norm ([(nthV 0 vs3)] ++ []), H3))
 else
 some (.exit 0 ([(nthV 0 vs1)] ++ []), H2))) N ([t9] ++ []) H) fun vs4 H4 =>
 (ibin .lss .no (nthV 0 vs4) (.int .i64 0)).bind fun t25 =>
 (boolK t25 fun b3 => bif b3 then
 ((iload true 2 cs1 0).bind fun t26 =>
 (istore true 2 [(.slice none 0 0), (.slice none 0 0)] 0 t26).bind fun cs2 =>
 (iload true 2 cs2 0).bind fun r1 =>
 some (.ret r1, H4))
 else
 (iload false 1 cs1 1).bind fun t28 =>
 (iidx 5 t28 (nthV 0 vs4)).bind fun t30 =>
 (paddr 3 t30).bind fun t31 =>
 (hload false 1 H4 t31).bind fun t32 =>
 (boolK t32 fun b4 => bif b4 then
 ((iload false 1 cs1 1).bind fun t34 =>
 (iidx 5 t34 (nthV 0 vs4)).bind fun t36 =>
 (paddr 2 t36).bind fun t37 =>
 (hstore false 1 lim H4 t37 (.int .i64 0)).bind fun H5 =>
 (iload true 2 cs1 0).bind fun t38 =>
 (istore true 2 [(.slice none 0 0), (.slice none 0 0)] 0 t38).bind fun cs3 =>
 (iload true 2 cs3 0).bind fun r2 =>
 some (.ret r2, H5))
 else
 (iload false 1 cs1 1).bind fun t40 =>
 (ibin .add .no (nthV 0 vs4) (.int .i64 1)).bind fun t43 =>
 none)))
def F286 (N lim : Nat) (a0 a1 : Value) (H : IHeap) : RV := B286 N lim a0 a1 H
def G286 (N : Nat) : G := w2 (F286 N)
theorem eq286 (N : Nat) (lim : Nat) (a0 a1 : Value) (H : IHeap) : ifun Tryz.prog { fn := envOf [], wr := [] } { promo := [2, 4], share := false } N (okOf Tryz.prog { promo := [2, 4], share := false } []) Tryz.f286 (.seq (.region []) (.seq (.region []) (.seq (.block [5] [] [] (.loop [5] [] [] (.seq (.seq (.region [[20]]) (.inl .leaf .leaf)) (.block [5] [] [] (.region []))))) (.seq (.seq (.region []) (.inl (.seq (.region []) .leaf) .leaf)) (.seq (.seq (.region []) (.inl (.seq (.region []) (.seq (.region []) .leaf)) .leaf)) (.seq (.region []) (.seq (.region []) .leaf))))))) lim [a0, a1] H = B286 N lim a0 a1 H := by kernel_rfl
theorem sim286 (N : Nat) : SimF Tryz.prog 286 (G286 N) := by
  refine SimF.gen [] [] { promo := [2, 4], share := false } N (.seq (.region []) (.seq (.region []) (.seq (.block [5] [] [] (.loop [5] [] [] (.seq (.seq (.region [[20]]) (.inl .leaf .leaf)) (.block [5] [] [] (.region []))))) (.seq (.seq (.region []) (.inl (.seq (.region []) .leaf) .leaf)) (.seq (.seq (.region []) (.inl (.seq (.region []) (.seq (.region []) .leaf)) .leaf)) (.seq (.region []) (.seq (.region []) .leaf))))))) Tryz.func286 (by kernel_rfl) (by kernel_rfl) env_nil ?_
  intro lim args H r h
  unfold G286 w2 at h
  split at h
  · exact (eq286 N lim _ _ H).trans h
  · simp at h
/-- (besom/unwind.State).Pop -/
def B236 (N : Nat) (g233 : RF1) (g284 : RF1) (g286 : RF2) (lim : Nat) (s0 : Value) (H : IHeap) : RV :=
 retK ((cellsOf true 2 s0).bind fun cs1 =>
 (iload true 2 cs1 0).bind fun t5 =>
 callK (g284 lim t5 H) fun t6 H1 =>
 (istore true 2 cs1 0 t6).bind fun cs2 =>
 (iload false 1 cs2 0).bind fun t8 =>
 (ilenS t8).bind fun t9 =>
 (ibin .eql .no t9 (.int .i64 0)).bind fun t11 =>
 (boolK t11 fun b1 => bif b1 then
 ((iload true 2 cs2 0).bind fun t12 =>
 (istore true 2 [(.slice none 0 0), (.slice none 0 0)] 0 t12).bind fun cs3 =>
 (iload true 2 cs3 0).bind fun r1 =>
 some (.ret r1, H1))
 else
 (iload true 2 cs2 0).bind fun t13 =>
 callK (g233 lim t13 H1) fun t14 H2 =>
 (iload false 1 cs2 0).bind fun t16 =>
 (ibin .sub .no t9 (.int .i64 1)).bind fun t18 =>
 (isliceS 3 t16 none (some t18) none).bind fun t19 =>
 (istore false 1 cs2 0 t19).bind fun cs4 =>
 (boolK t14 fun b2 => bif b2 then
 ((iload true 2 cs4 0).bind fun t22 =>
 callK (g286 lim t22 t9 H2) fun t24 H3 =>
 (istore true 2 [(.slice none 0 0), (.slice none 0 0)] 0 t24).bind fun cs5 =>
 (iload true 2 cs5 0).bind fun r2 =>
 some (.ret r2, H3))
 else
 (iload true 2 cs4 0).bind fun t25 =>
 none)))
def F236 (N lim : Nat) (a0 : Value) (H : IHeap) : RV := B236 N (F233 N) (F284 N) (F286 N) lim a0 H
def G236 (N : Nat) : G := w1 (F236 N)
theorem eq236 (N : Nat) (g233 : RF1) (g284 : RF1) (g286 : RF2) (lim : Nat) (a0 : Value) (H : IHeap) : ifun Tryz.prog { fn := envOf [(233, Ideal.w1 g233), (284, Ideal.w1 g284), (286, Ideal.w2 g286)], wr := [] } { promo := [1, 2], share := false } N (okOf Tryz.prog { promo := [1, 2], share := false } []) Tryz.f236 (.seq (.region []) (.seq (.region []) (.seq (.region []) (.seq (.seq (.region []) (.inl (.seq (.region []) .leaf) .leaf)) (.seq (.region []) (.seq (.region []) (.seq (.seq (.region []) (.inl (.seq (.region []) .leaf) .leaf)) (.seq (.region []) .leaf)))))))) lim [a0] H = B236 N g233 g284 g286 lim a0 H := by kernel_rfl
theorem sim236 (N : Nat) : SimF Tryz.prog 236 (G236 N) := by
  refine SimF.gen [(233, G233 N), (284, G284 N), (286, G286 N)] [] { promo := [1, 2], share := false } N (.seq (.region []) (.seq (.region []) (.seq (.region []) (.seq (.seq (.region []) (.inl (.seq (.region []) .leaf) .leaf)) (.seq (.region []) (.seq (.region []) (.seq (.seq (.region []) (.inl (.seq (.region []) .leaf) .leaf)) (.seq (.region []) .leaf)))))))) Tryz.func236 (by kernel_rfl) (by kernel_rfl) (env_cons (sim233 N) (env_cons (sim284 N) (env_cons (sim286 N) env_nil))) ?_
  intro lim args H r h
  unfold G236 w1 at h
  split at h
  · exact (eq236 N (F233 N) (F284 N) (F286 N) lim _ H).trans h
  · simp at h
/-- besom/frame.Slot -/
def B179 (N : Nat) (lim : Nat) (fn0 k1 : Value) (H : IHeap) : RV :=
 retK ((ibin .add .no (.int .i64 2) k1).bind fun t6 =>
 some (.ret t6, H))
def F179 (N lim : Nat) (a0 a1 : Value) (H : IHeap) : RV := B179 N lim a0 a1 H
def G179 (N : Nat) : G := w2 (F179 N)
theorem eq179 (N : Nat) (lim : Nat) (a0 a1 : Value) (H : IHeap) : ifun Tryz.prog { fn := envOf [], wr := [] } { promo := [], share := false } N (okOf Tryz.prog { promo := [], share := false } []) Tryz.f179 (.seq (.region []) (.seq (.region []) .leaf)) lim [a0, a1] H = B179 N lim a0 a1 H := by kernel_rfl
theorem sim179 (N : Nat) : SimF Tryz.prog 179 (G179 N) := by
  refine SimF.gen [] [] { promo := [], share := false } N (.seq (.region []) (.seq (.region []) .leaf)) Tryz.func179 (by kernel_rfl) (by kernel_rfl) env_nil ?_
  intro lim args H r h
  unfold G179 w2 at h
  split at h
  · exact (eq179 N lim _ _ H).trans h
  · simp at h
/-- (*besom/task.Task).off -/
def B102 (N : Nat) (g158 : RF1) (g179 : RF2) (lim : Nat) (t0 at1 : Value) (H : IHeap) : RV :=
 retK ((cellsOf true 2 at1).bind fun cs1 =>
 (iload false 1 cs1 0).bind fun t7 =>
 (ibin .lss .no t7 (.int .i64 0)).bind fun t8 =>
 (gval false t8).bind fun w1 => grpK (bif w1 then
 ((iload false 1 cs1 0).bind fun t11 =>
 callK (g158 lim t0 H) fun t13 H2 =>
 (ibin .geq .no t11 t13).bind fun t14 =>
 some ([t14], H2))
 else some ([Value.tuple #[]], H)) fun vs1 H1 =>
 (pickK t8 (.bool true) (nthV 0 vs1)).bind fun t15 =>
 (boolK t15 fun b2 => bif b2 then
 (some (.ret (.int .i64 (-1)), H1))
 else
 (inilc t0).bind fun t17 =>
 (paddr 4 t17).bind fun t18 =>
 (hload false 1 H1 t18).bind fun t19 =>
 (iload false 1 cs1 0).bind fun t21 =>
 (iidx 5 t19 t21).bind fun t22 =>
 (hload true 5 H1 t22).bind fun t23 =>
 (istore true 5 [(.int .i64 0), (.int .i64 0), (.int .i64 0), (.int .i64 0), (.slice none 0 0)] 0 t23).bind fun cs2 =>
 (iload false 1 cs1 1).bind fun t25 =>
 (ibin .lss .no t25 (.int .i64 0)).bind fun t26 =>
 (gval false t26).bind fun w2 => grpK (bif w2 then
 ((iload false 1 cs1 1).bind fun t29 =>
 (inilc t0).bind fun t31 =>
 (paddr 0 t31).bind fun t32 =>
 (paddr 2 t32).bind fun t33 =>
 (hload false 1 H1 t33).bind fun t34 =>
 (iload false 1 cs2 0).bind fun t36 =>
 (iidx 5 t34 t36).bind fun t37 =>
 (paddr 2 t37).bind fun t38 =>
 (hload false 1 H1 t38).bind fun t39 =>
 (ibin .geq .no t29 t39).bind fun t40 =>
 some ([t40], H1))
 else some ([Value.tuple #[]], H1)) fun vs2 H3 =>
 (pickK t26 (.bool true) (nthV 0 vs2)).bind fun t41 =>
 (boolK t41 fun b4 => bif b4 then
 (some (.ret (.int .i64 (-1)), H3))
 else
 (iload false 1 cs2 2).bind fun t43 =>
 (iload false 1 cs2 0).bind fun t45 =>
 (iload false 1 cs1 1).bind fun t47 =>
 callK (g179 lim t45 t47 H3) fun t48 H4 =>
 (ibin .add .no t43 t48).bind fun t49 =>
 some (.ret t49, H4))))
def F102 (N lim : Nat) (a0 a1 : Value) (H : IHeap) : RV := B102 N (F158 N) (F179 N) lim a0 a1 H
def G102 (N : Nat) : G := w2 (F102 N)
theorem eq102 (N : Nat) (g158 : RF1) (g179 : RF2) (lim : Nat) (a0 a1 : Value) (H : IHeap) : ifun Tryz.prog { fn := envOf [(158, Ideal.w1 g158), (179, Ideal.w2 g179)], wr := [158, 179] } { promo := [3, 5], share := false } N (okOf Tryz.prog { promo := [3, 5], share := false } [158, 179]) Tryz.f102 (.seq (.region []) (.seq (.seq (.region [[14]]) (.inl (.seq (.region []) .leaf) .leaf)) (.seq (.region []) (.seq (.seq (.region [[40]]) (.inl (.seq (.region []) .leaf) .leaf)) (.seq (.region []) .leaf))))) lim [a0, a1] H = B102 N g158 g179 lim a0 a1 H := by kernel_rfl
theorem sim102 (N : Nat) : SimF Tryz.prog 102 (G102 N) := by
  refine SimF.gen [(158, G158 N), (179, G179 N)] [158, 179] { promo := [3, 5], share := false } N (.seq (.region []) (.seq (.seq (.region [[14]]) (.inl (.seq (.region []) .leaf) .leaf)) (.seq (.region []) (.seq (.seq (.region [[40]]) (.inl (.seq (.region []) .leaf) .leaf)) (.seq (.region []) .leaf))))) Tryz.func102 (by kernel_rfl) (by kernel_rfl) (env_cons (sim158 N) (env_cons (sim179 N) env_nil)) ?_
  intro lim args H r h
  unfold G102 w2 at h
  split at h
  · exact (eq102 N (F158 N) (F179 N) lim _ _ H).trans h
  · simp at h
/-- (*besom/stack.Stack).Store -/
def B104 (N : Nat) (g180 : RF2) (lim : Nat) (s0 off1 v2 : Value) (H : IHeap) : RV :=
 retK (callK (g180 lim s0 off1 H) fun t9 H1 =>
 (iun .not t9).bind fun t10 =>
 (boolK t10 fun b1 => bif b1 then
 (some (.ret (.bool false), H1))
 else
 (inilc s0).bind fun t12 =>
 (paddr 1 t12).bind fun t13 =>
 (hload false 1 H1 t13).bind fun t14 =>
 (iidx 1 t14 off1).bind fun t17 =>
 (hstore false 1 lim H1 t17 v2).bind fun H2 =>
 some (.ret (.bool true), H2)))
def F104 (N lim : Nat) (a0 a1 a2 : Value) (H : IHeap) : RV := B104 N (F180 N) lim a0 a1 a2 H
def G104 (N : Nat) : G := w3 (F104 N)
theorem eq104 (N : Nat) (g180 : RF2) (lim : Nat) (a0 a1 a2 : Value) (H : IHeap) : ifun Tryz.prog { fn := envOf [(180, Ideal.w2 g180)], wr := [] } { promo := [], share := false } N (okOf Tryz.prog { promo := [], share := false } []) Tryz.f104 (.seq (.region []) (.seq (.seq (.region []) (.inl (.seq (.region []) .leaf) .leaf)) (.seq (.region []) (.seq (.region []) .leaf)))) lim [a0, a1, a2] H = B104 N g180 lim a0 a1 a2 H := by kernel_rfl
theorem sim104 (N : Nat) : SimF Tryz.prog 104 (G104 N) := by
  refine SimF.gen [(180, G180 N)] [] { promo := [], share := false } N (.seq (.region []) (.seq (.seq (.region []) (.inl (.seq (.region []) .leaf) .leaf)) (.seq (.region []) (.seq (.region []) .leaf)))) Tryz.func104 (by kernel_rfl) (by kernel_rfl) (env_cons (sim180 N) env_nil) ?_
  intro lim args H r h
  unfold G104 w3 at h
  split at h
  · exact (eq104 N (F180 N) lim _ _ _ H).trans h
  · simp at h
/-- (*besom/task.Task).Set -/
def B237 (N : Nat) (g102 : RF2) (g104 : RF3) (g158 : RF1) (lim : Nat) (t0 k1 v2 : Value) (H : IHeap) : RV :=
 retK ((ibin .neq .ptr t0 (.pointer none)).bind fun t8 =>
 (gval true t8).bind fun w1 => grpK (bif w1 then
 ((inilc t0).bind fun t11 =>
 (paddr 3 t11).bind fun t12 =>
 (hload false 1 H t12).bind fun t13 =>
 callK (g158 H.next t0 H) fun t16 H2 =>
 (ibin .sub .no t16 (.int .i64 1)).bind fun t17 =>
 (istore false 1 [(.int .i64 0), (.int .i64 0)] 0 t17).bind fun cs1 =>
 (istore false 1 cs1 1 k1).bind fun cs2 =>
 callK (g102 H2.next t0 (.agg ⟨cs2⟩) H2) fun t20 H3 =>
 callK (g104 lim t13 t20 v2 H3) fun t22 H4 =>
 some ([t22], H4))
 else some ([Value.tuple #[]], H)) fun vs1 H1 =>
 (pickK t8 (nthV 0 vs1) (.bool false)).bind fun t23 =>
 some (.ret t23, H1))
def F237 (N lim : Nat) (a0 a1 a2 : Value) (H : IHeap) : RV := B237 N (F102 N) (F104 N) (F158 N) lim a0 a1 a2 H
def G237 (N : Nat) : G := w3 (F237 N)
theorem eq237 (N : Nat) (g102 : RF2) (g104 : RF3) (g158 : RF1) (lim : Nat) (a0 a1 a2 : Value) (H : IHeap) : ifun Tryz.prog { fn := envOf [(102, Ideal.w2 g102), (104, Ideal.w3 g104), (158, Ideal.w1 g158)], wr := [104] } { promo := [], share := false } N (okOf Tryz.prog { promo := [], share := false } [104]) Tryz.f237 (.seq (.region []) (.seq (.region [[22]]) .leaf)) lim [a0, a1, a2] H = B237 N g102 g104 g158 lim a0 a1 a2 H := by kernel_rfl
theorem sim237 (N : Nat) : SimF Tryz.prog 237 (G237 N) := by
  refine SimF.gen [(102, G102 N), (104, G104 N), (158, G158 N)] [104] { promo := [], share := false } N (.seq (.region []) (.seq (.region [[22]]) .leaf)) Tryz.func237 (by kernel_rfl) (by kernel_rfl) (env_cons (sim102 N) (env_cons (sim104 N) (env_cons (sim158 N) env_nil))) ?_
  intro lim args H r h
  unfold G237 w3 at h
  split at h
  · exact (eq237 N (F102 N) (F104 N) (F158 N) lim _ _ _ H).trans h
  · simp at h
/-- (*besom/task.Task).Pop -/
def B165 (N : Nat) (g158 : RF1) (g167 : RF1) (g236 : RF1) (g237 : RF3) (lim : Nat) (t0 value1 has2 : Value) (H : IHeap) : RV :=
 retK (callK (g167 lim t0 H) fun t11 H1 =>
 (ibin .eql .ptr t11 (.pointer none)).bind fun t13 =>
 (boolK t13 fun b1 => bif b1 then
 (some (.ret (.bool false), H1))
 else
 (inilc t0).bind fun t15 =>
 (paddr 5 t15).bind fun t16 =>
 (paddr 0 t16).bind fun t17 =>
 (hload false 1 H1 t17).bind fun t18 =>
 (inilc t0).bind fun t20 =>
 (paddr 5 t20).bind fun t21 =>
 (paddr 0 t21).bind fun t22 =>
 (hload false 1 H1 t22).bind fun t23 =>
 (ilenS t23).bind fun t24 =>
 (ibin .sub .no t24 (.int .i64 1)).bind fun t25 =>
 (iidx 3 t18 t25).bind fun t26 =>
 (paddr 1 t26).bind fun t27 =>
 (hload false 1 H1 t27).bind fun t28 =>
 (inilc t11).bind fun t30 =>
 (paddr 3 t30).bind fun t31 =>
 (hload false 1 H1 t31).bind fun t32 =>
 (inilc t0).bind fun t34 =>
 (paddr 7 t34).bind fun t35 =>
 (hload false 1 H1 t35).bind fun t36 =>
 callK (g158 H1.next t0 H1) fun t38 H2 =>
 (ibin .sub .no t38 (.int .i64 1)).bind fun t39 =>
 (istore false 1 [(.int .i64 0), (.int .i64 0)] 0 t39).bind fun cs1 =>
 (istore false 1 cs1 1 (.int .i64 0)).bind fun cs2 =>
 (idelete 3 lim H2 t36 (.agg ⟨cs2⟩)).bind fun H3 =>
 (inilc t0).bind fun t43 =>
 (paddr 4 t43).bind fun t44 =>
 (hload false 1 H3 t44).bind fun t45 =>
 (inilc t0).bind fun t47 =>
 (paddr 4 t47).bind fun t48 =>
 (hload false 1 H3 t48).bind fun t49 =>
 (ilenS t49).bind fun t50 =>
 (ibin .sub .no t50 (.int .i64 1)).bind fun t51 =>
 (isliceS 5 t45 none (some t51) none).bind fun t52 =>
 (inilc t0).bind fun t53 =>
 (paddr 4 t53).bind fun t54 =>
 (hstore false 1 lim H3 t54 t52).bind fun H4 =>
 (inilc t0).bind fun t57 =>
 (paddr 5 t57).bind fun t58 =>
 (hload true 2 H4 t58).bind fun t59 =>
 callK (g236 lim t59 H4) fun t60 H5 =>
 (inilc t0).bind fun t61 =>
 (paddr 5 t61).bind fun t62 =>
 (hstore true 2 lim H5 t62 t60).bind fun H6 =>
 (gval true has2).bind fun w1 => grpK (bif w1 then
 ((ibin .geq .no t32 (.int .i64 0)).bind fun t66 =>
 some ([t66], H6))
 else some ([Value.tuple #[]], H6)) fun vs1 H7 =>
 (pickK has2 (nthV 0 vs1) (.bool false)).bind fun t67 =>
 (gval true t67).bind fun w2 => grpK (bif w2 then
 ((iun .not t28).bind fun t70 =>
 some ([t70], H7))
 else some ([Value.tuple #[]], H7)) fun vs2 H8 =>
 (pickK t67 (nthV 0 vs2) (.bool false)).bind fun t71 =>
 joinK (boolK t71 fun b4 => bif b4 then
 (callK (g237 lim t0 t32 value1 H8) fun t75 H9 =>
 some (.norm ([] ++ []), H9))
 else
 some (.norm ([] ++ []), H8)) fun vs3 H10 =>
 some (.ret (.bool true), H10)))
def F165 (N lim : Nat) (a0 a1 a2 : Value) (H : IHeap) : RV := B165 N (F158 N) (F167 N) (F236 N) (F237 N) lim a0 a1 a2 H
def G165 (N : Nat) : G := w3 (F165 N)
theorem eq165 (N : Nat) (g158 : RF1) (g167 : RF1) (g236 : RF1) (g237 : RF3) (lim : Nat) (a0 a1 a2 : Value) (H : IHeap) : ifun Tryz.prog { fn := envOf [(158, Ideal.w1 g158), (167, Ideal.w1 g167), (236, Ideal.w1 g236), (237, Ideal.w3 g237)], wr := [] } { promo := [], share := false } N (okOf Tryz.prog { promo := [], share := false } []) Tryz.f165 (.seq (.region []) (.seq (.region []) (.seq (.seq (.region []) (.inl (.seq (.region []) .leaf) .leaf)) (.seq (.region []) (.seq (.region []) (.seq (.region []) (.seq (.region []) (.seq (.region []) (.seq (.seq (.region [[66], [70]]) (.join [] [] [] (.region []) .leaf)) (.seq (.region []) .leaf)))))))))) lim [a0, a1, a2] H = B165 N g158 g167 g236 g237 lim a0 a1 a2 H := by kernel_rfl
theorem sim165 (N : Nat) : SimF Tryz.prog 165 (G165 N) := by
  refine SimF.gen [(158, G158 N), (167, G167 N), (236, G236 N), (237, G237 N)] [] { promo := [], share := false } N (.seq (.region []) (.seq (.region []) (.seq (.seq (.region []) (.inl (.seq (.region []) .leaf) .leaf)) (.seq (.region []) (.seq (.region []) (.seq (.region []) (.seq (.region []) (.seq (.region []) (.seq (.seq (.region [[66], [70]]) (.join [] [] [] (.region []) .leaf)) (.seq (.region []) .leaf)))))))))) Tryz.func165 (by kernel_rfl) (by kernel_rfl) (env_cons (sim158 N) (env_cons (sim167 N) (env_cons (sim236 N) (env_cons (sim237 N) env_nil)))) ?_
  intro lim args H r h
  unfold G165 w3 at h
  split at h
  · exact (eq165 N (F158 N) (F167 N) (F236 N) (F237 N) lim _ _ _ H).trans h
  · simp at h
/-- (*besom/task.Task).Goto -/
def B166 (N : Nat) (g167 : RF1) (lim : Nat) (t0 pc1 : Value) (H : IHeap) : RV :=
 retK (callK (g167 lim t0 H) fun t6 H1 =>
 (ibin .neq .ptr t6 (.pointer none)).bind fun t8 =>
 joinK (boolK t8 fun b1 => bif b1 then
 ((inilc t6).bind fun t11 =>
 (paddr 1 t11).bind fun t12 =>
 (hstore false 1 lim H1 t12 pc1).bind fun H2 =>
 some (.norm ([] ++ []), H2))
 else
 some (.norm ([] ++ []), H1)) fun vs1 H3 =>
 some (.ret (.tuple ⟨[]⟩), H3))
def F166 (N lim : Nat) (a0 a1 : Value) (H : IHeap) : RV := B166 N (F167 N) lim a0 a1 H
def G166 (N : Nat) : G := w2 (F166 N)
theorem eq166 (N : Nat) (g167 : RF1) (lim : Nat) (a0 a1 : Value) (H : IHeap) : ifun Tryz.prog { fn := envOf [(167, Ideal.w1 g167)], wr := [] } { promo := [], share := false } N (okOf Tryz.prog { promo := [], share := false } []) Tryz.f166 (.seq (.region []) (.seq (.region []) (.join [] [] [] (.region []) .leaf))) lim [a0, a1] H = B166 N g167 lim a0 a1 H := by kernel_rfl
theorem sim166 (N : Nat) : SimF Tryz.prog 166 (G166 N) := by
  refine SimF.gen [(167, G167 N)] [] { promo := [], share := false } N (.seq (.region []) (.seq (.region []) (.join [] [] [] (.region []) .leaf))) Tryz.func166 (by kernel_rfl) (by kernel_rfl) (env_cons (sim167 N) env_nil) ?_
  intro lim args H r h
  unfold G166 w2 at h
  split at h
  · exact (eq166 N (F167 N) lim _ _ H).trans h
  · simp at h
/-- besom/mutator.pop -/
def B94 (N : Nat) (g69 : RF1) (g95 : RF1) (g96 : RF1) (g162 : RF1) (g164 : RF1) (g165 : RF3) (g166 : RF2) (lim : Nat) (p0 t1 : Value) (H : IHeap) : RV :=
 retK ((cellsOf true 3 p0).bind fun cs1 =>
 callK (g162 lim t1 H) fun t13 H1 =>
 (iextract 0 t13).bind fun t14 =>
 (iextract 1 t13).bind fun t15 =>
 (iload false 1 cs1 2).bind fun t17 =>
 callK (g95 lim t1 H1) fun t19 H2 =>
 (iidx 5 t17 t19).bind fun t20 =>
 (paddr 1 t20).bind fun t21 =>
 (hload false 1 H2 t21).bind fun t22 =>
 (ibin .neq .no t22 (.int .i64 0)).bind fun t23 =>
 (gval true t23).bind fun w1 => grpK (bif w1 then
 (callK (g69 lim t1 H2) fun t26 H4 =>
 none)
 else some ([Value.tuple #[]], H2)) fun vs1 H3 =>
 (pickK t23 (nthV 0 vs1) (.bool false)).bind fun t29 =>
 callK (g164 lim t1 H3) fun t31 H5 =>
 callK (g165 lim t1 t14 t29 H5) fun t35 H6 =>
 callK (g69 lim t1 H6) fun t37 H7 =>
 (istore true 7 [(.int .i64 0), (.int .i64 0), (.int .i64 0), (.slice none 0 0), (.slice none 0 0), (.slice none 0 0), (.bool false)] 0 t37).bind fun cs2 =>
 (iload false 1 cs2 3).bind fun t39 =>
 (ilenS t39).bind fun t40 =>
 (iun .not t31).bind fun t42 =>
 (gval true t42).bind fun w2 => grpK (bif w2 then
 ((ibin .gtr .no t40 (.int .i64 0)).bind fun t45 =>
 some ([t45], H7))
 else some ([Value.tuple #[]], H7)) fun vs2 H8 =>
 (pickK t42 (nthV 0 vs2) (.bool false)).bind fun t46 =>
 (gval true t46).bind fun w3 => grpK (bif w3 then
 ((iload false 1 cs2 3).bind fun t49 =>
 (ibin .sub .no t40 (.int .i64 1)).bind fun t51 =>
 (iidx 9 t49 t51).bind fun t52 =>
 (paddr 3 t52).bind fun t53 =>
 (hload false 1 H8 t53).bind fun t54 =>
 (iun .not t54).bind fun t55 =>
 some ([t55], H8))
 else some ([Value.tuple #[]], H8)) fun vs3 H9 =>
 (pickK t46 (nthV 0 vs3) (.bool false)).bind fun t56 =>
 (gval true t56).bind fun w4 => grpK (bif w4 then
 ((iload true 7 cs2 0).bind fun t58 =>
 none)
 else some ([Value.tuple #[]], H9)) fun vs4 H10 =>
 (pickK t56 (nthV 0 vs4) (.bool false)).bind fun t61 =>
 joinK (boolK t61 fun b5 => bif b5 then
 (callK (g96 lim t1 H10) fun t64 H11 =>
 (ibin .add .no t64 (.int .i64 1)).bind fun t65 =>
 callK (g166 lim t1 t65 H11) fun t66 H12 =>
 some (.norm ([] ++ []), H12))
 else
 some (.norm ([] ++ []), H10)) fun vs5 H13 =>
 (istore true 7 [(.int .i64 0), (.int .i64 0), (.int .i64 0), (.int .i64 0), (.int .i64 0), (.bool false), (.slice none 0 0)] 0 (.agg ⟨[(.int .i64 0), (.int .i64 0), (.int .i64 0), (.int .i64 0), (.int .i64 0), (.bool false), (.slice none 0 0)]⟩)).bind fun cs3 =>
 (iload true 7 cs3 0).bind fun r1 =>
 some (.ret r1, H13))
def F94 (N lim : Nat) (a0 a1 : Value) (H : IHeap) : RV := B94 N (F69 N) (F95 N) (F96 N) (F162 N) (F164 N) (F165 N) (F166 N) lim a0 a1 H
def G94 (N : Nat) : G := w2 (F94 N)
theorem eq94 (N : Nat) (g69 : RF1) (g95 : RF1) (g96 : RF1) (g162 : RF1) (g164 : RF1) (g165 : RF3) (g166 : RF2) (lim : Nat) (a0 a1 : Value) (H : IHeap) : ifun Tryz.prog { fn := envOf [(69, Ideal.w1 g69), (95, Ideal.w1 g95), (96, Ideal.w1 g96), (162, Ideal.w1 g162), (164, Ideal.w1 g164), (165, Ideal.w3 g165), (166, Ideal.w2 g166)], wr := [69, 95, 163] } { promo := [2, 4, 9], share := false } N (okOf Tryz.prog { promo := [2, 4, 9], share := false } [69, 95, 163]) Tryz.f94 (.seq (.region []) (.seq (.region []) (.seq (.region [[28]]) (.seq (.region []) (.seq (.region []) (.seq (.region []) (.seq (.seq (.region []) (.seq (.region [[45], [55], [60]]) (.join [] [] [] (.region []) .leaf))) (.seq (.region []) .leaf)))))))) lim [a0, a1] H = B94 N g69 g95 g96 g162 g164 g165 g166 lim a0 a1 H := by kernel_rfl
theorem sim94 (N : Nat) : SimF Tryz.prog 94 (G94 N) := by
  refine SimF.gen [(69, G69 N), (95, G95 N), (96, G96 N), (162, G162 N), (164, G164 N), (165, G165 N), (166, G166 N)] [69, 95, 163] { promo := [2, 4, 9], share := false } N (.seq (.region []) (.seq (.region []) (.seq (.region [[28]]) (.seq (.region []) (.seq (.region []) (.seq (.region []) (.seq (.seq (.region []) (.seq (.region [[45], [55], [60]]) (.join [] [] [] (.region []) .leaf))) (.seq (.region []) .leaf)))))))) Tryz.func94 (by kernel_rfl) (by kernel_rfl) (env_cons (sim69 N) (env_cons (sim95 N) (env_cons (sim96 N) (env_cons (sim162 N) (env_cons (sim164 N) (env_cons (sim165 N) (env_cons (sim166 N) env_nil))))))) ?_
  intro lim args H r h
  unfold G94 w2 at h
  split at h
  · exact (eq94 N (F69 N) (F95 N) (F96 N) (F162 N) (F164 N) (F165 N) (F166 N) lim _ _ H).trans h
  · simp at h
/-- (besom/mutator.step).on -/
def B175 (N : Nat) (g96 : RF1) (g166 : RF2) (lim : Nat) (s0 : Value) (H : IHeap) : RV :=
 retK ((cellsOf true 9 s0).bind fun cs1 =>
 (iload false 1 cs1 4).bind fun t4 =>
 (iload false 1 cs1 4).bind fun t6 =>
 callK (g96 lim t6 H) fun t7 H1 =>
 (ibin .add .no t7 (.int .i64 1)).bind fun t8 =>
 callK (g166 lim t4 t8 H1) fun t9 H2 =>
 (istore true 7 [(.int .i64 0), (.int .i64 0), (.int .i64 0), (.int .i64 0), (.int .i64 0), (.bool false), (.slice none 0 0)] 0 (.agg ⟨[(.int .i64 0), (.int .i64 0), (.int .i64 0), (.int .i64 0), (.int .i64 0), (.bool false), (.slice none 0 0)]⟩)).bind fun cs2 =>
 (iload true 7 cs2 0).bind fun r1 =>
 some (.ret r1, H2))
def F175 (N lim : Nat) (a0 : Value) (H : IHeap) : RV := B175 N (F96 N) (F166 N) lim a0 H
def G175 (N : Nat) : G := w1 (F175 N)
theorem eq175 (N : Nat) (g96 : RF1) (g166 : RF2) (lim : Nat) (a0 : Value) (H : IHeap) : ifun Tryz.prog { fn := envOf [(96, Ideal.w1 g96), (166, Ideal.w2 g166)], wr := [96, 166] } { promo := [1, 2], share := false } N (okOf Tryz.prog { promo := [1, 2], share := false } [96, 166]) Tryz.f175 (.seq (.region []) (.seq (.region []) (.seq (.region []) .leaf))) lim [a0] H = B175 N g96 g166 lim a0 H := by kernel_rfl
theorem sim175 (N : Nat) : SimF Tryz.prog 175 (G175 N) := by
  refine SimF.gen [(96, G96 N), (166, G166 N)] [96, 166] { promo := [1, 2], share := false } N (.seq (.region []) (.seq (.region []) (.seq (.region []) .leaf))) Tryz.func175 (by kernel_rfl) (by kernel_rfl) (env_cons (sim96 N) (env_cons (sim166 N) env_nil)) ?_
  intro lim args H r h
  unfold G175 w1 at h
  split at h
  · exact (eq175 N (F96 N) (F166 N) lim _ H).trans h
  · simp at h
/-- (besom/mutator.step).set -/
def B168 (N : Nat) (g175 : RF1) (g237 : RF3) (lim : Nat) (s0 k1 v2 : Value) (H : IHeap) : RV :=
 retK ((cellsOf true 9 s0).bind fun cs1 =>
 (iload false 1 cs1 4).bind fun t8 =>
 callK (g237 lim t8 k1 v2 H) fun t11 H1 =>
 (iload true 9 cs1 0).bind fun t12 =>
 callK (g175 lim t12 H1) fun t13 H2 =>
 (istore true 7 [(.int .i64 0), (.int .i64 0), (.int .i64 0), (.int .i64 0), (.int .i64 0), (.bool false), (.slice none 0 0)] 0 t13).bind fun cs2 =>
 (iload true 7 cs2 0).bind fun r1 =>
 some (.ret r1, H2))
def F168 (N lim : Nat) (a0 a1 a2 : Value) (H : IHeap) : RV := B168 N (F175 N) (F237 N) lim a0 a1 a2 H
def G168 (N : Nat) : G := w3 (F168 N)
theorem eq168 (N : Nat) (g175 : RF1) (g237 : RF3) (lim : Nat) (a0 a1 a2 : Value) (H : IHeap) : ifun Tryz.prog { fn := envOf [(175, Ideal.w1 g175), (237, Ideal.w3 g237)], wr := [] } { promo := [3, 6], share := false } N (okOf Tryz.prog { promo := [3, 6], share := false } []) Tryz.f168 (.seq (.region []) (.seq (.region []) (.seq (.region []) .leaf))) lim [a0, a1, a2] H = B168 N g175 g237 lim a0 a1 a2 H := by kernel_rfl
theorem sim168 (N : Nat) : SimF Tryz.prog 168 (G168 N) := by
  refine SimF.gen [(175, G175 N), (237, G237 N)] [] { promo := [3, 6], share := false } N (.seq (.region []) (.seq (.region []) (.seq (.region []) .leaf))) Tryz.func168 (by kernel_rfl) (by kernel_rfl) (env_cons (sim175 N) (env_cons (sim237 N) env_nil)) ?_
  intro lim args H r h
  unfold G168 w3 at h
  split at h
  · exact (eq168 N (F175 N) (F237 N) lim _ _ _ H).trans h
  · simp at h
/-- besom/word.Of -/
def B169 (N : Nat) (lim : Nat) (v0 : Value) (H : IHeap) : RV :=
 retK ((iconv .u64 v0).bind fun t4 =>
 (iconv .u32 t4).bind fun t5 =>
 (iconv .i32 t5).bind fun t6 =>
 (iconv .i64 t6).bind fun t7 =>
 some (.ret t7, H))
def F169 (N lim : Nat) (a0 : Value) (H : IHeap) : RV := B169 N lim a0 H
def G169 (N : Nat) : G := w1 (F169 N)
theorem eq169 (N : Nat) (lim : Nat) (a0 : Value) (H : IHeap) : ifun Tryz.prog { fn := envOf [], wr := [] } { promo := [], share := false } N (okOf Tryz.prog { promo := [], share := false } []) Tryz.f169 (.seq (.region []) (.seq (.region []) .leaf)) lim [a0] H = B169 N lim a0 H := by kernel_rfl
theorem sim169 (N : Nat) : SimF Tryz.prog 169 (G169 N) := by
  refine SimF.gen [] [] { promo := [], share := false } N (.seq (.region []) (.seq (.region []) .leaf)) Tryz.func169 (by kernel_rfl) (by kernel_rfl) env_nil ?_
  intro lim args H r h
  unfold G169 w1 at h
  split at h
  · exact (eq169 N lim _ H).trans h
  · simp at h
/-- (*besom/task.Task).Slot -/
def B170 (N : Nat) (g102 : RF2) (g103 : RF2) (g158 : RF1) (lim : Nat) (t0 k1 : Value) (H : IHeap) : RV :=
 retK ((ibin .eql .ptr t0 (.pointer none)).bind fun t8 =>
 (boolK t8 fun b1 => bif b1 then
 (some (.ret (.int .i64 0), H))
 else
 (inilc t0).bind fun t11 =>
 (paddr 3 t11).bind fun t12 =>
 (hload false 1 H t12).bind fun t13 =>
 callK (g158 H.next t0 H) fun t16 H1 =>
 (ibin .sub .no t16 (.int .i64 1)).bind fun t17 =>
 (istore false 1 [(.int .i64 0), (.int .i64 0)] 0 t17).bind fun cs1 =>
 (istore false 1 cs1 1 k1).bind fun cs2 =>
 callK (g102 H1.next t0 (.agg ⟨cs2⟩) H1) fun t20 H2 =>
 callK (g103 lim t13 t20 H2) fun t21 H3 =>
 (iextract 0 t21).bind fun t22 =>
 (iextract 1 t21).bind fun t23 =>
 some (.ret t22, H3)))
def F170 (N lim : Nat) (a0 a1 : Value) (H : IHeap) : RV := B170 N (F102 N) (F103 N) (F158 N) lim a0 a1 H
def G170 (N : Nat) : G := w2 (F170 N)
theorem eq170 (N : Nat) (g102 : RF2) (g103 : RF2) (g158 : RF1) (lim : Nat) (a0 a1 : Value) (H : IHeap) : ifun Tryz.prog { fn := envOf [(102, Ideal.w2 g102), (103, Ideal.w2 g103), (158, Ideal.w1 g158)], wr := [103] } { promo := [], share := false } N (okOf Tryz.prog { promo := [], share := false } [103]) Tryz.f170 (.seq (.region []) (.seq (.seq (.region []) (.inl (.seq (.region []) .leaf) .leaf)) (.seq (.region []) (.seq (.region []) .leaf)))) lim [a0, a1] H = B170 N g102 g103 g158 lim a0 a1 H := by kernel_rfl
theorem sim170 (N : Nat) : SimF Tryz.prog 170 (G170 N) := by
  refine SimF.gen [(102, G102 N), (103, G103 N), (158, G158 N)] [103] { promo := [], share := false } N (.seq (.region []) (.seq (.seq (.region []) (.inl (.seq (.region []) .leaf) .leaf)) (.seq (.region []) (.seq (.region []) .leaf)))) Tryz.func170 (by kernel_rfl) (by kernel_rfl) (env_cons (sim102 N) (env_cons (sim103 N) (env_cons (sim158 N) env_nil))) ?_
  intro lim args H r h
  unfold G170 w2 at h
  split at h
  · exact (eq170 N (F102 N) (F103 N) (F158 N) lim _ _ H).trans h
  · simp at h
/-- (*besom/task.Task).Used -/
def B98 (N : Nat) (g27 : RF2) (g167 : RF1) (lim : Nat) (t0 : Value) (H : IHeap) : RV :=
 retK (callK (g167 lim t0 H) fun t5 H1 =>
 (ibin .eql .ptr t5 (.pointer none)).bind fun t7 =>
 (boolK t7 fun b1 => bif b1 then
 (some (.ret (.int .i64 0), H1))
 else
 (inilc t5).bind fun t9 =>
 (paddr 2 t9).bind fun t10 =>
 (hload false 1 H1 t10).bind fun t11 =>
 (inilc t0).bind fun t13 =>
 (paddr 0 t13).bind fun t14 =>
 (hload true 3 H1 t14).bind fun t15 =>
 (inilc t5).bind fun t17 =>
 (paddr 0 t17).bind fun t18 =>
 (hload false 1 H1 t18).bind fun t19 =>
 callK (g27 H1.next t15 t19 H1) fun t20 H2 =>
 (ibin .add .no t11 t20).bind fun t21 =>
 some (.ret t21, H2)))
def F98 (N lim : Nat) (a0 : Value) (H : IHeap) : RV := B98 N (F27 N) (F167 N) lim a0 H
def G98 (N : Nat) : G := w1 (F98 N)
theorem eq98 (N : Nat) (g27 : RF2) (g167 : RF1) (lim : Nat) (a0 : Value) (H : IHeap) : ifun Tryz.prog { fn := envOf [(27, Ideal.w2 g27), (167, Ideal.w1 g167)], wr := [] } { promo := [], share := false } N (okOf Tryz.prog { promo := [], share := false } []) Tryz.f98 (.seq (.region []) (.seq (.region []) (.seq (.seq (.region []) (.inl (.seq (.region []) .leaf) .leaf)) (.seq (.region []) .leaf)))) lim [a0] H = B98 N g27 g167 lim a0 H := by kernel_rfl
theorem sim98 (N : Nat) : SimF Tryz.prog 98 (G98 N) := by
  refine SimF.gen [(27, G27 N), (167, G167 N)] [] { promo := [], share := false } N (.seq (.region []) (.seq (.region []) (.seq (.seq (.region []) (.inl (.seq (.region []) .leaf) .leaf)) (.seq (.region []) .leaf)))) Tryz.func98 (by kernel_rfl) (by kernel_rfl) (env_cons (sim27 N) (env_cons (sim167 N) env_nil)) ?_
  intro lim args H r h
  unfold G98 w1 at h
  split at h
  · exact (eq98 N (F27 N) (F167 N) lim _ H).trans h
  · simp at h
/-- (*besom/task.Task).Need -/
def B235 (N : Nat) (g27 : RF2) (g98 : RF1) (lim : Nat) (t0 fn1 : Value) (H : IHeap) : RV :=
 retK ((ibin .eql .ptr t0 (.pointer none)).bind fun t6 =>
 (boolK t6 fun b1 => bif b1 then
 (some (.ret (.int .i64 0), H))
 else
 callK (g98 H.next t0 H) fun t8 H1 =>
 (inilc t0).bind fun t10 =>
 (paddr 0 t10).bind fun t11 =>
 (hload true 3 H1 t11).bind fun t12 =>
 callK (g27 lim t12 fn1 H1) fun t14 H2 =>
 (ibin .add .no t8 t14).bind fun t15 =>
 some (.ret t15, H2)))
def F235 (N lim : Nat) (a0 a1 : Value) (H : IHeap) : RV := B235 N (F27 N) (F98 N) lim a0 a1 H
def G235 (N : Nat) : G := w2 (F235 N)
theorem eq235 (N : Nat) (g27 : RF2) (g98 : RF1) (lim : Nat) (a0 a1 : Value) (H : IHeap) : ifun Tryz.prog { fn := envOf [(27, Ideal.w2 g27), (98, Ideal.w1 g98)], wr := [27] } { promo := [], share := false } N (okOf Tryz.prog { promo := [], share := false } [27]) Tryz.f235 (.seq (.region []) (.seq (.seq (.region []) (.inl (.seq (.region []) .leaf) .leaf)) (.seq (.region []) .leaf))) lim [a0, a1] H = B235 N g27 g98 lim a0 a1 H := by kernel_rfl
theorem sim235 (N : Nat) : SimF Tryz.prog 235 (G235 N) := by
  refine SimF.gen [(27, G27 N), (98, G98 N)] [27] { promo := [], share := false } N (.seq (.region []) (.seq (.seq (.region []) (.inl (.seq (.region []) .leaf) .leaf)) (.seq (.region []) .leaf))) Tryz.func235 (by kernel_rfl) (by kernel_rfl) (env_cons (sim27 N) (env_cons (sim98 N) env_nil)) ?_
  intro lim args H r h
  unfold G235 w2 at h
  split at h
  · exact (eq235 N (F27 N) (F98 N) lim _ _ H).trans h
  · simp at h
/-- (*besom/task.Task).fits -/
def B224 (N : Nat) (g44 : RF1) (g235 : RF2) (lim : Nat) (t0 fn1 args2 : Value) (H : IHeap) : RV :=
 retK ((ibin .neq .ptr t0 (.pointer none)).bind fun t8 =>
 (gval true t8).bind fun w1 => grpK (bif w1 then
 ((ibin .geq .no fn1 (.int .i64 0)).bind fun t11 =>
 some ([t11], H))
 else some ([Value.tuple #[]], H)) fun vs1 H1 =>
 (pickK t8 (nthV 0 vs1) (.bool false)).bind fun t12 =>
 (gval true t12).bind fun w2 => grpK (bif w2 then
 ((inilc t0).bind fun t16 =>
 (paddr 0 t16).bind fun t17 =>
 (paddr 2 t17).bind fun t18 =>
 (hload false 1 H1 t18).bind fun t19 =>
 (ilenS t19).bind fun t20 =>
 (ibin .lss .no fn1 t20).bind fun t21 =>
 some ([t21], H1))
 else some ([Value.tuple #[]], H1)) fun vs2 H2 =>
 (pickK t12 (nthV 0 vs2) (.bool false)).bind fun t22 =>
 (gval true t22).bind fun w3 => grpK (bif w3 then
 ((ilenS args2).bind fun t25 =>
 (inilc t0).bind fun t27 =>
 (paddr 0 t27).bind fun t28 =>
 (paddr 2 t28).bind fun t29 =>
 (hload false 1 H2 t29).bind fun t30 =>
 (iidx 5 t30 fn1).bind fun t32 =>
 (paddr 0 t32).bind fun t33 =>
 (hload false 1 H2 t33).bind fun t34 =>
 (ilenS t34).bind fun t35 =>
 (ibin .eql .no t25 t35).bind fun t36 =>
 some ([t36], H2))
 else some ([Value.tuple #[]], H2)) fun vs3 H3 =>
 (pickK t22 (nthV 0 vs3) (.bool false)).bind fun t37 =>
 (gval true t37).bind fun w4 => grpK (bif w4 then
 (callK (g235 lim t0 fn1 H3) fun t41 H5 =>
 callK (g44 lim t0 H5) fun t43 H6 =>
 (ibin .leq .no t41 t43).bind fun t44 =>
 some ([t44], H6))
 else some ([Value.tuple #[]], H3)) fun vs4 H4 =>
 (pickK t37 (nthV 0 vs4) (.bool false)).bind fun t45 =>
 some (.ret t45, H4))
def F224 (N lim : Nat) (a0 a1 a2 : Value) (H : IHeap) : RV := B224 N (F44 N) (F235 N) lim a0 a1 a2 H
def G224 (N : Nat) : G := w3 (F224 N)
theorem eq224 (N : Nat) (g44 : RF1) (g235 : RF2) (lim : Nat) (a0 a1 a2 : Value) (H : IHeap) : ifun Tryz.prog { fn := envOf [(44, Ideal.w1 g44), (235, Ideal.w2 g235)], wr := [] } { promo := [], share := false } N (okOf Tryz.prog { promo := [], share := false } []) Tryz.f224 (.seq (.region []) (.seq (.region [[11], [21], [36], [44]]) .leaf)) lim [a0, a1, a2] H = B224 N g44 g235 lim a0 a1 a2 H := by kernel_rfl
theorem sim224 (N : Nat) : SimF Tryz.prog 224 (G224 N) := by
  refine SimF.gen [(44, G44 N), (235, G235 N)] [] { promo := [], share := false } N (.seq (.region []) (.seq (.region [[11], [21], [36], [44]]) .leaf)) Tryz.func224 (by kernel_rfl) (by kernel_rfl) (env_cons (sim44 N) (env_cons (sim235 N) env_nil)) ?_
  intro lim args H r h
  unfold G224 w3 at h
  split at h
  · exact (eq224 N (F44 N) (F235 N) lim _ _ _ H).trans h
  · simp at h
/-- (*besom/stack.Stack).Clear -/
def B283 (N : Nat) (g100 : RF1) (lim : Nat) (s0 from1 to2 : Value) (H : IHeap) : RV :=
 retK ((iminmax false [from1, (.int .i64 0)]).bind fun t7 =>
 callK (g100 lim s0 H) fun t10 H1 =>
 (iminmax true [to2, t10]).bind fun t11 =>
 (ibin .lss .no t7 t11).bind fun t14 =>
 joinK (boolK t14 fun b1 => bif b1 then
 ((inilc s0).bind fun t16 =>
 (paddr 1 t16).bind fun t17 =>
 (hload false 1 H1 t17).bind fun t18 =>
 (isliceS 1 t18 (some t7) (some t11) none).bind fun t21 =>
 (iclear [(.int .i64 0)] lim H1 t21).bind fun H2 =>
 some (.norm ([] ++ []), H2))
 else
 some (.norm ([] ++ []), H1)) fun vs1 H3 =>
 some (.ret (.tuple ⟨[]⟩), H3))
def F283 (N lim : Nat) (a0 a1 a2 : Value) (H : IHeap) : RV := B283 N (F100 N) lim a0 a1 a2 H
def G283 (N : Nat) : G := w3 (F283 N)
theorem eq283 (N : Nat) (g100 : RF1) (lim : Nat) (a0 a1 a2 : Value) (H : IHeap) : ifun Tryz.prog { fn := envOf [(100, Ideal.w1 g100)], wr := [] } { promo := [], share := false } N (okOf Tryz.prog { promo := [], share := false } []) Tryz.f283 (.seq (.region []) (.seq (.region []) (.join [] [] [] (.region []) .leaf))) lim [a0, a1, a2] H = B283 N g100 lim a0 a1 a2 H := by kernel_rfl
theorem sim283 (N : Nat) : SimF Tryz.prog 283 (G283 N) := by
  refine SimF.gen [(100, G100 N)] [] { promo := [], share := false } N (.seq (.region []) (.seq (.region []) (.join [] [] [] (.region []) .leaf))) Tryz.func283 (by kernel_rfl) (by kernel_rfl) (env_cons (sim100 N) env_nil) ?_
  intro lim args H r h
  unfold G283 w3 at h
  split at h
  · exact (eq283 N (F100 N) lim _ _ _ H).trans h
  · simp at h
/-- (*besom/task.Task).push -/
def B225 (N : Nat) (g27 : RF2) (g98 : RF1) (g237 : RF3) (g283 : RF3) (lim : Nat) (t0 fn1 args2 ret3 : Value) (H : IHeap) : RV :=
 retK (callK (g98 lim t0 H) fun t12 H1 =>
 (inilc t0).bind fun t14 =>
 (paddr 3 t14).bind fun t15 =>
 (hload false 1 H1 t15).bind fun t16 =>
 (inilc t0).bind fun t20 =>
 (paddr 0 t20).bind fun t21 =>
 (hload true 3 H1 t21).bind fun t22 =>
 callK (g27 H1.next t22 fn1 H1) fun t24 H2 =>
 (ibin .add .no t12 t24).bind fun t25 =>
 callK (g283 lim t16 t12 t25 H2) fun t26 H3 =>
 (inilc t0).bind fun t29 =>
 (paddr 4 t29).bind fun t30 =>
 (hload false 1 H3 t30).bind fun t31 =>
 (istore false 1 [(.int .i64 0), (.int .i64 0), (.int .i64 0), (.int .i64 0), (.slice none 0 0)] 0 fn1).bind fun cs1 =>
 (istore false 1 cs1 2 t12).bind fun cs2 =>
 (istore false 1 cs2 3 ret3).bind fun cs3 =>
 (istore true 5 [(.int .i64 0), (.int .i64 0), (.int .i64 0), (.int .i64 0), (.slice none 0 0)] 0 (.agg ⟨cs3⟩)).bind fun cs4 =>
 rowK (lrow 5 1 cs4) fun m1 new1 =>
 callK (iappend false 5 56 lim H3 t31 m1 new1) fun t37 H4 =>
 (inilc t0).bind fun t38 =>
 (paddr 4 t38).bind fun t39 =>
 (hstore false 1 lim H4 t39 t37).bind fun H5 =>
 (ilenS args2).bind fun t41 =>
 catchK 0 (iloop (fun vs1 H6 =>
 (ibin .lss .no (nthV 0 vs1) t41).bind fun t43 =>
 (boolK t43 fun b1 => bif b1 then
 (catchK 1 ((iidx 1 args2 (nthV 0 vs1)).bind fun t45 =>
 (hload false 1 H6 t45).bind fun t46 =>
 callK (g237 lim t0 (nthV 0 vs1) t46 H6) fun t50 H7 =>
 some (.norm ([] ++ []), H7)) fun vs2 H8 =>
 (ibin .add .no (nthV 0 vs1) (.int .i64 1)).bind fun t51 =>
 some (.norm ([t51] ++ []), H8))
 else
 some (.exit 0 ([] ++ []), H6))) N ([(.int .i64 0)] ++ []) H5) fun vs3 H9 =>
 some (.ret (.tuple ⟨[]⟩), H9))
def F225 (N lim : Nat) (a0 a1 a2 a3 : Value) (H : IHeap) : RV := B225 N (F27 N) (F98 N) (F237 N) (F283 N) lim a0 a1 a2 a3 H
def G225 (N : Nat) : G := w4 (F225 N)
theorem eq225 (N : Nat) (g27 : RF2) (g98 : RF1) (g237 : RF3) (g283 : RF3) (lim : Nat) (a0 a1 a2 a3 : Value) (H : IHeap) : ifun Tryz.prog { fn := envOf [(27, Ideal.w2 g27), (98, Ideal.w1 g98), (237, Ideal.w3 g237), (283, Ideal.w3 g283)], wr := [283] } { promo := [36], share := false } N (okOf Tryz.prog { promo := [36], share := false } [283]) Tryz.f225 (.seq (.region []) (.seq (.region []) (.seq (.region []) (.seq (.region []) (.block [] [] [] (.loop [42] [] [] (.seq (.region []) (.seq (.inl .leaf .leaf) (.seq (.block [] [] [] (.seq (.region []) (.region []))) (.region [])))))))))) lim [a0, a1, a2, a3] H = B225 N g27 g98 g237 g283 lim a0 a1 a2 a3 H := by kernel_rfl
theorem sim225 (N : Nat) : SimF Tryz.prog 225 (G225 N) := by
  refine SimF.gen [(27, G27 N), (98, G98 N), (237, G237 N), (283, G283 N)] [283] { promo := [36], share := false } N (.seq (.region []) (.seq (.region []) (.seq (.region []) (.seq (.region []) (.block [] [] [] (.loop [42] [] [] (.seq (.region []) (.seq (.inl .leaf .leaf) (.seq (.block [] [] [] (.seq (.region []) (.region []))) (.region [])))))))))) Tryz.func225 (by kernel_rfl) (by kernel_rfl) (env_cons (sim27 N) (env_cons (sim98 N) (env_cons (sim237 N) (env_cons (sim283 N) env_nil)))) ?_
  intro lim args H r h
  unfold G225 w4 at h
  split at h
  · exact (eq225 N (F27 N) (F98 N) (F237 N) (F283 N) lim _ _ _ _ H).trans h
  · simp at h
/-- (besom/unwind.State).Enter -/
def B226 (N : Nat) (g284 : RF1) (lim : Nat) (s0 : Value) (H : IHeap) : RV :=
 retK ((cellsOf true 2 s0).bind fun cs1 =>
 (iload true 2 cs1 0).bind fun t3 =>
 callK (g284 lim t3 H) fun t4 H1 =>
 (istore true 2 cs1 0 t4).bind fun cs2 =>
 (iload false 1 cs2 0).bind fun t6 =>
 (istore true 3 [(.bool false), (.bool false), (.int .i64 0)] 0 (.agg ⟨[(.bool false), (.bool false), (.int .i64 0)]⟩)).bind fun cs3 =>
 rowK (lrow 3 1 cs3) fun m1 new1 =>
 callK (iappend false 3 16 lim H1 t6 m1 new1) fun t9 H2 =>
 (istore false 1 cs2 0 t9).bind fun cs4 =>
 (iload true 2 cs4 0).bind fun t11 =>
 (istore true 2 [(.slice none 0 0), (.slice none 0 0)] 0 t11).bind fun cs5 =>
 (iload true 2 cs5 0).bind fun r1 =>
 some (.ret r1, H2))
def F226 (N lim : Nat) (a0 : Value) (H : IHeap) : RV := B226 N (F284 N) lim a0 H
def G226 (N : Nat) : G := w1 (F226 N)
theorem eq226 (N : Nat) (g284 : RF1) (lim : Nat) (a0 : Value) (H : IHeap) : ifun Tryz.prog { fn := envOf [(284, Ideal.w1 g284)], wr := [] } { promo := [1, 2, 8], share := false } N (okOf Tryz.prog { promo := [1, 2, 8], share := false } []) Tryz.f226 (.seq (.region []) (.seq (.region []) (.seq (.region []) (.seq (.region []) .leaf)))) lim [a0] H = B226 N g284 lim a0 H := by kernel_rfl
theorem sim226 (N : Nat) : SimF Tryz.prog 226 (G226 N) := by
  refine SimF.gen [(284, G284 N)] [] { promo := [1, 2, 8], share := false } N (.seq (.region []) (.seq (.region []) (.seq (.region []) (.seq (.region []) .leaf)))) Tryz.func226 (by kernel_rfl) (by kernel_rfl) (env_cons (sim284 N) env_nil) ?_
  intro lim args H r h
  unfold G226 w1 at h
  split at h
  · exact (eq226 N (F284 N) lim _ H).trans h
  · simp at h
/-- (*besom/task.Task).Enter -/
def B151 (N : Nat) (g224 : RF3) (g225 : RF4) (g226 : RF1) (lim : Nat) (t0 fn1 args2 ret3 : Value) (H : IHeap) : RV :=
 retK (callK (g224 lim t0 fn1 args2 H) fun t12 H1 =>
 (iun .not t12).bind fun t13 =>
 (boolK t13 fun b1 => bif b1 then
 (some (.ret (.bool false), H1))
 else
 callK (g225 lim t0 fn1 args2 ret3 H1) fun t18 H2 =>
 (inilc t0).bind fun t21 =>
 (paddr 5 t21).bind fun t22 =>
 (hload true 2 H2 t22).bind fun t23 =>
 callK (g226 lim t23 H2) fun t24 H3 =>
 (inilc t0).bind fun t25 =>
 (paddr 5 t25).bind fun t26 =>
 (hstore true 2 lim H3 t26 t24).bind fun H4 =>
 some (.ret (.bool true), H4)))
def F151 (N lim : Nat) (a0 a1 a2 a3 : Value) (H : IHeap) : RV := B151 N (F224 N) (F225 N) (F226 N) lim a0 a1 a2 a3 H
def G151 (N : Nat) : G := w4 (F151 N)
theorem eq151 (N : Nat) (g224 : RF3) (g225 : RF4) (g226 : RF1) (lim : Nat) (a0 a1 a2 a3 : Value) (H : IHeap) : ifun Tryz.prog { fn := envOf [(224, Ideal.w3 g224), (225, Ideal.w4 g225), (226, Ideal.w1 g226)], wr := [] } { promo := [], share := false } N (okOf Tryz.prog { promo := [], share := false } []) Tryz.f151 (.seq (.region []) (.seq (.seq (.region []) (.inl (.seq (.region []) .leaf) .leaf)) (.seq (.region []) (.seq (.region []) (.seq (.region []) .leaf))))) lim [a0, a1, a2, a3] H = B151 N g224 g225 g226 lim a0 a1 a2 a3 H := by kernel_rfl
theorem sim151 (N : Nat) : SimF Tryz.prog 151 (G151 N) := by
  refine SimF.gen [(224, G224 N), (225, G225 N), (226, G226 N)] [] { promo := [], share := false } N (.seq (.region []) (.seq (.seq (.region []) (.inl (.seq (.region []) .leaf) .leaf)) (.seq (.region []) (.seq (.region []) (.seq (.region []) .leaf))))) Tryz.func151 (by kernel_rfl) (by kernel_rfl) (env_cons (sim224 N) (env_cons (sim225 N) (env_cons (sim226 N) env_nil))) ?_
  intro lim args H r h
  unfold G151 w4 at h
  split at h
  · exact (eq151 N (F224 N) (F225 N) (F226 N) lim _ _ _ _ H).trans h
  · simp at h
/-- (besom/mutator.step).args -/
def B244 (N : Nat) (g170 : RF2) (lim : Nat) (s0 fn1 : Value) (H : IHeap) : RV :=
 retK ((cellsOf true 9 s0).bind fun cs1 =>
 (iload false 1 cs1 2).bind fun t9 =>
 (iidx 5 t9 fn1).bind fun t11 =>
 (paddr 0 t11).bind fun t12 =>
 (hload false 1 H t12).bind fun t13 =>
 (ilenS t13).bind fun t14 =>
 catchK 0 (iloop (fun vs1 H1 =>
 (ibin .lss .no (nthV 1 vs1) t14).bind fun t16 =>
 (boolK t16 fun b1 => bif b1 then
 (catchK 1 ((iload false 1 cs1 4).bind fun t20 =>
 (iload false 1 cs1 8).bind fun t23 =>
 (ibin .add .no t23 (nthV 1 vs1)).bind fun t25 =>
 callK (g170 lim t20 t25 H1) fun t26 H2 =>
 (istore false 1 [(.int .i64 0)] 0 t26).bind fun cs2 =>
 rowK (lrow 1 1 cs2) fun m1 new1 =>
 callK (iappend false 1 8 lim H2 (nthV 0 vs1) m1 new1) fun t28 H3 =>
 some (.norm ([t28] ++ []), H3)) fun vs2 H4 =>
 (ibin .add .no (nthV 1 vs1) (.int .i64 1)).bind fun t29 =>
 some (.norm ([(nthV 0 vs2), t29] ++ []), H4))
 else
 some (.exit 0 ([(nthV 0 vs1)] ++ []), H1))) N ([(.slice none 0 0), (.int .i64 0)] ++ []) H) fun vs3 H5 =>
 some (.ret (nthV 0 vs3), H5))
def F244 (N lim : Nat) (a0 a1 : Value) (H : IHeap) : RV := B244 N (F170 N) lim a0 a1 H
def G244 (N : Nat) : G := w2 (F244 N)
theorem eq244 (N : Nat) (g170 : RF2) (lim : Nat) (a0 a1 : Value) (H : IHeap) : ifun Tryz.prog { fn := envOf [(170, Ideal.w2 g170)], wr := [] } { promo := [2, 27], share := false } N (okOf Tryz.prog { promo := [2, 27], share := false } []) Tryz.f244 (.seq (.region []) (.seq (.region []) (.seq (.seq (.region []) (.block [5] [] [27] (.loop [5, 15] [] [27] (.seq (.region []) (.seq (.inl .leaf .leaf) (.seq (.block [5] [] [27] (.seq (.region []) (.region []))) (.region []))))))) (.seq (.region []) .leaf)))) lim [a0, a1] H = B244 N g170 lim a0 a1 H := by kernel_rfl
theorem sim244 (N : Nat) : SimF Tryz.prog 244 (G244 N) := by
  refine SimF.gen [(170, G170 N)] [] { promo := [2, 27], share := false } N (.seq (.region []) (.seq (.region []) (.seq (.seq (.region []) (.block [5] [] [27] (.loop [5, 15] [] [27] (.seq (.region []) (.seq (.inl .leaf .leaf) (.seq (.block [5] [] [27] (.seq (.region []) (.region []))) (.region []))))))) (.seq (.region []) .leaf)))) Tryz.func244 (by kernel_rfl) (by kernel_rfl) (env_cons (sim170 N) env_nil) ?_
  intro lim args H r h
  unfold G244 w2 at h
  split at h
  · exact (eq244 N (F170 N) lim _ _ H).trans h
  · simp at h
end Go.Ideal
