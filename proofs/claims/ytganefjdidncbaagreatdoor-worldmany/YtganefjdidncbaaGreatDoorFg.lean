/- This text proves no statement of the seat: it says what functions of the program do on the ideal machine, part 6. By program (emitall.py). -/
import Derived.Test.YtganefjdidncbaaGreatDoorFf
namespace Go.Ideal
open Go.Proofs
set_option maxRecDepth 100000
set_option linter.unusedVariables false
/-- besom/world.New -/
def B10 (N : Nat) (g25 : RF1) (g26 : RF1) (g27 : RF2) (g28 : RF1) (g29 : RF2) (g30 : RF1) (g31 : RF3) (lim : Nat) (p0 c1 : Value) (H : IHeap) : RV :=
 retK ((cellsOf true 3 p0).bind fun cs1 =>
 (cellsOf true 5 c1).bind fun cs2 =>
 (iload true 5 cs2 0).bind fun t14 =>
 callK (g25 lim t14 H) fun t15 H1 =>
 (ibin .neq .no t15 (.int .i64 0)).bind fun t17 =>
 (boolK t17 fun b1 => bif b1 then
 ((istore true 2 [(.int .i64 0), (.int .i64 0)] 0 (.agg ⟨[(.int .i64 0), (.int .i64 0)]⟩)).bind fun cs3 =>
 (iload true 2 cs3 0).bind fun r1 =>
 some (.ret (.tuple ⟨[(.pointer none), t15, r1]⟩), H1))
 else
 (iload true 3 cs1 0).bind fun t21 =>
 callK (g26 lim t21 H1) fun t22 H2 =>
 (iextract 0 t22).bind fun t23 =>
 (iextract 1 t22).bind fun t24 =>
 (iextract 2 t22).bind fun t25 =>
 (istore true 2 [(.int .i64 0), (.int .i64 0)] 0 t25).bind fun cs4 =>
 (ibin .neq .no t24 (.int .i64 0)).bind fun t27 =>
 (boolK t27 fun b2 => bif b2 then
 ((iload true 2 cs4 0).bind fun t29 =>
 (istore true 2 [(.int .i64 0), (.int .i64 0)] 0 t29).bind fun cs5 =>
 (iload true 2 cs5 0).bind fun r2 =>
 some (.ret (.tuple ⟨[(.pointer none), t24, r2]⟩), H2))
 else
 (iload true 3 cs1 0).bind fun t30 =>
 callK (g27 lim t30 (.int .i64 0) H2) fun t31 H3 =>
 (iload false 1 cs2 2).bind fun t33 =>
 (ibin .gtr .no t31 t33).bind fun t34 =>
 (boolK t34 fun b3 => bif b3 then
 ((istore true 2 [(.int .i64 0), (.int .i64 0)] 0 (.agg ⟨[(.int .i64 0), (.int .i64 0)]⟩)).bind fun cs6 =>
 (iload true 2 cs6 0).bind fun r3 =>
 some (.ret (.tuple ⟨[(.pointer none), (.int .i64 5), r3]⟩), H3))
 else
 (iload true 3 cs1 0).bind fun t36 =>
 callK (g28 lim t36 H3) fun t37 H4 =>
 (istore true 3 cs1 0 t37).bind fun cs7 =>
 (iload false 1 cs2 0).bind fun t40 =>
 (iload false 1 cs7 1).bind fun t42 =>
 callK (g29 lim t40 t42 H4) fun t43 H5 =>
 (iextract 0 t43).bind fun t44 =>
 (iextract 1 t43).bind fun t45 =>
 (iload true 3 cs7 0).bind fun t46 =>
 (iload true 5 cs2 0).bind fun t47 =>
 (iload false 1 cs2 4).bind fun t51 =>
 callK (g30 H5.next t51 H5) fun t52 H6 =>
 (iload false 1 cs7 0).bind fun t54 =>
 (ilenS t54).bind fun t55 =>
 callK (imake 8 [(.int .i64 0)] H6 t55 t55) fun t56 H7 =>
 (istore true 3 [(.slice none 0 0), (.slice none 0 0), (.slice none 0 0), (.int .i64 0), (.int .i64 0), (.int .i64 0), (.int .i64 0), (.int .i64 0), (.pointer none), (.pointer none), (.pointer none), (.int .u64 0), (.int .i64 0), (.int .i64 0), (.int .i64 0), (.slice none 0 0), (.slice none 0 0), (.slice none 0 0), (.slice none 0 0), (.int .i64 0), (.int .i64 0), (.int .i64 0)] 0 t46).bind fun cs8 =>
 (istore true 5 cs8 3 t47).bind fun cs9 =>
 (istore false 1 cs9 8 t23).bind fun cs10 =>
 (istore false 1 cs10 9 t44).bind fun cs11 =>
 (istore false 1 cs11 10 t52).bind fun cs12 =>
 (istore false 1 cs12 17 t56).bind fun cs13 =>
 (cellsOf true 22 (.agg ⟨cs13⟩)).bind fun cs14 =>
 callK (g31 lim (ptr H7.next 0) (.int .i64 0) (.slice none 0 0) (H7.push (.cells cs14 0))) fun t60 H8 =>
 (istore true 2 [(.int .i64 0), (.int .i64 0)] 0 (.agg ⟨[(.int .i64 0), (.int .i64 0)]⟩)).bind fun cs15 =>
 (iload true 2 cs15 0).bind fun r4 =>
 some (.ret (.tuple ⟨[(ptr H7.next 0), (.int .i64 0), r4]⟩), H8)))))
def F10 (N lim : Nat) (a0 a1 : Value) (H : IHeap) : RV := B10 N (F25 N) (F26 N) (F27 N) (F28 N) (F29 N) (F30 N) (F31 N) lim a0 a1 H
def G10 (N : Nat) : G := w2 (F10 N)
theorem eq10 (N : Nat) (g25 : RF1) (g26 : RF1) (g27 : RF2) (g28 : RF1) (g29 : RF2) (g30 : RF1) (g31 : RF3) (lim : Nat) (a0 a1 : Value) (H : IHeap) : ifun Tryz.prog { fn := envOf [(25, Ideal.w1 g25), (26, Ideal.w1 g26), (27, Ideal.w2 g27), (28, Ideal.w1 g28), (29, Ideal.w2 g29), (30, Ideal.w1 g30), (31, Ideal.w3 g31)], wr := [27] } { promo := [2, 3, 6, 10], share := false } N (okOf Tryz.prog { promo := [2, 3, 6, 10], share := false } [27]) Tryz.f10 (.seq (.region []) (.seq (.seq (.region []) (.seq (.region []) (.inl (.seq (.region []) .leaf) .leaf))) (.seq (.region []) (.seq (.seq (.region []) (.inl (.seq (.region []) .leaf) .leaf)) (.seq (.seq (.region []) (.inl (.seq (.region []) .leaf) .leaf)) (.seq (.region []) (.seq (.region []) (.seq (.region []) (.seq (.region []) (.seq (.region []) .leaf)))))))))) lim [a0, a1] H = B10 N g25 g26 g27 g28 g29 g30 g31 lim a0 a1 H := by kernel_rfl
theorem sim10 (N : Nat) : SimF Tryz.prog 10 (G10 N) := by
  refine SimF.gen [(25, G25 N), (26, G26 N), (27, G27 N), (28, G28 N), (29, G29 N), (30, G30 N), (31, G31 N)] [27] { promo := [2, 3, 6, 10], share := false } N (.seq (.region []) (.seq (.seq (.region []) (.seq (.region []) (.inl (.seq (.region []) .leaf) .leaf))) (.seq (.region []) (.seq (.seq (.region []) (.inl (.seq (.region []) .leaf) .leaf)) (.seq (.seq (.region []) (.inl (.seq (.region []) .leaf) .leaf)) (.seq (.region []) (.seq (.region []) (.seq (.region []) (.seq (.region []) (.seq (.region []) .leaf)))))))))) Tryz.func10 (by kernel_rfl) (by kernel_rfl) (env_cons (sim25 N) (env_cons (sim26 N) (env_cons (sim27 N) (env_cons (sim28 N) (env_cons (sim29 N) (env_cons (sim30 N) (env_cons (sim31 N) env_nil))))))) ?_
  intro lim args H r h
  unfold G10 w2 at h
  split at h
  · exact (eq10 N (F25 N) (F26 N) (F27 N) (F28 N) (F29 N) (F30 N) (F31 N) lim _ _ H).trans h
  · simp at h
/-- (*besom/world.World).Out -/
def B11 (N : Nat) (g15 : RF1) (g22 : RF1) (lim : Nat) (w0 : Value) (H : IHeap) : RV :=
 retK (callK (g15 lim w0 H) fun t4 H1 =>
 (boolK t4 fun b1 => bif b1 then
 (some (.ret (.slice none 0 0), H1))
 else
 (inilc w0).bind fun t6 =>
 (paddr 18 t6).bind fun t7 =>
 (hload false 1 H1 t7).bind fun t8 =>
 callK (g22 lim t8 H1) fun t9 H2 =>
 some (.ret t9, H2)))
def F11 (N lim : Nat) (a0 : Value) (H : IHeap) : RV := B11 N (F15 N) (F22 N) lim a0 H
def G11 (N : Nat) : G := w1 (F11 N)
theorem eq11 (N : Nat) (g15 : RF1) (g22 : RF1) (lim : Nat) (a0 : Value) (H : IHeap) : ifun Tryz.prog { fn := envOf [(15, Ideal.w1 g15), (22, Ideal.w1 g22)], wr := [] } { promo := [], share := false } N (okOf Tryz.prog { promo := [], share := false } []) Tryz.f11 (.seq (.region []) (.seq (.seq (.region []) (.inl (.seq (.region []) .leaf) .leaf)) (.seq (.region []) .leaf))) lim [a0] H = B11 N g15 g22 lim a0 H := by kernel_rfl
theorem sim11 (N : Nat) : SimF Tryz.prog 11 (G11 N) := by
  refine SimF.gen [(15, G15 N), (22, G22 N)] [] { promo := [], share := false } N (.seq (.region []) (.seq (.seq (.region []) (.inl (.seq (.region []) .leaf) .leaf)) (.seq (.region []) .leaf))) Tryz.func11 (by kernel_rfl) (by kernel_rfl) (env_cons (sim15 N) (env_cons (sim22 N) env_nil)) ?_
  intro lim args H r h
  unfold G11 w1 at h
  split at h
  · exact (eq11 N (F15 N) (F22 N) lim _ H).trans h
  · simp at h
/-- besom/besomlaw24.alive -/
def B4 (N : Nat) (g6 : RF0) (g7 : RF1) (g8 : RF2) (g10 : RF2) (g11 : RF1) (lim : Nat) (H : IHeap) : RV :=
 retK ((istore false 1 [(.int .i64 0), (.int .i64 0), (.int .i64 0), (.int .i64 0)] 0 (.int .i64 1)).bind fun cs1 =>
 (istore false 1 cs1 2 (.int .i64 5)).bind fun cs2 =>
 (istore false 1 [(.int .i64 0), (.int .i64 0), (.int .i64 0), (.int .i64 0)] 0 (.int .i64 29)).bind fun cs3 =>
 (istore false 1 [(.int .i64 0), (.int .i64 0), (.int .i64 0), (.int .i64 0)] 0 (.int .i64 27)).bind fun cs4 =>
 (istore true 4 [(.int .i64 0), (.int .i64 0), (.int .i64 0), (.int .i64 0), (.int .i64 0), (.int .i64 0), (.int .i64 0), (.int .i64 0), (.int .i64 0), (.int .i64 0), (.int .i64 0), (.int .i64 0)] 0 (.agg ⟨cs2⟩)).bind fun cs5 =>
 (istore true 4 cs5 4 (.agg ⟨cs3⟩)).bind fun cs6 =>
 (istore true 4 cs6 8 (.agg ⟨cs4⟩)).bind fun cs7 =>
 (istore false 1 [(.slice none 0 0), (.int .i64 0), (.int .i64 0), (.slice none 0 0), (.slice none 0 0)] 2 (.int .i64 1)).bind fun cs8 =>
 (istore false 1 cs8 4 (slc 4 H.next 0 3 4)).bind fun cs9 =>
 (istore true 5 [(.slice none 0 0), (.int .i64 0), (.int .i64 0), (.slice none 0 0), (.slice none 0 0)] 0 (.agg ⟨cs9⟩)).bind fun cs10 =>
 (istore false 1 [(.slice none 0 0), (.slice none 0 0), (.slice none 0 0)] 2 (slc 5 (H.push (.cells cs7 0)).next 0 1 2)).bind fun cs11 =>
 (istore true 3 [(.slice none 0 0), (.slice none 0 0), (.slice none 0 0)] 0 (.agg ⟨cs11⟩)).bind fun cs12 =>
 (iload true 3 cs12 0).bind fun t15 =>
 callK (g6 lim ((H.push (.cells cs7 0)).push (.cells cs10 0))) fun t16 H1 =>
 callK (g10 lim t15 t16 H1) fun t17 H2 =>
 (iextract 0 t17).bind fun t18 =>
 (iextract 1 t17).bind fun t19 =>
 (iextract 2 t17).bind fun t20 =>
 (istore true 2 [(.int .i64 0), (.int .i64 0)] 0 t20).bind fun cs13 =>
 (ibin .neq .no t19 (.int .i64 0)).bind fun t22 =>
 (gval false t22).bind fun w1 => grpK (bif w1 then
 ((ibin .eql .ptr t18 (.pointer none)).bind fun t25 =>
 some ([t25], H2))
 else some ([Value.tuple #[]], H2)) fun vs1 H3 =>
 (pickK t22 (.bool true) (nthV 0 vs1)).bind fun t26 =>
 (boolK t26 fun b2 => bif b2 then
 (some (.ret (.bool false), H3))
 else
 (istore true 2 [(.int .i64 0), (.int .i64 0), (.int .i64 0), (.int .i64 0), (.int .i64 0), (.int .i64 0), (.int .i64 0), (.int .i64 0), (.int .i64 0), (.int .i64 0), (.int .i64 0), (.int .i64 0)] 0 (.agg ⟨[(.int .i64 0), (.int .i64 0)]⟩)).bind fun cs14 =>
 (istore true 2 cs14 2 (.agg ⟨[(.int .i64 0), (.int .i64 0)]⟩)).bind fun cs15 =>
 (istore true 2 cs15 4 (.agg ⟨[(.int .i64 0), (.int .i64 0)]⟩)).bind fun cs16 =>
 (istore true 2 cs16 6 (.agg ⟨[(.int .i64 0), (.int .i64 0)]⟩)).bind fun cs17 =>
 (istore true 2 cs17 8 (.agg ⟨[(.int .i64 0), (.int .i64 0)]⟩)).bind fun cs18 =>
 (istore true 2 cs18 10 (.agg ⟨[(.int .i64 0), (.int .i64 0)]⟩)).bind fun cs19 =>
 callK (g8 lim t18 (slc 2 H3.next 0 6 7) (H3.push (.cells cs19 0))) fun t35 H4 =>
 callK (g11 lim t18 H4) fun t37 H5 =>
 (ibin .eql .no t35 (.int .i64 5)).bind fun t39 =>
 (gval true t39).bind fun w2 => grpK (bif w2 then
 (callK (g7 lim t18 H5) fun t42 H7 =>
 (ibin .eql .no t42 (.int .i64 1)).bind fun t43 =>
 some ([t43], H7))
 else some ([Value.tuple #[]], H5)) fun vs2 H6 =>
 (pickK t39 (nthV 0 vs2) (.bool false)).bind fun t44 =>
 (gval true t44).bind fun w3 => grpK (bif w3 then
 ((ilenS t37).bind fun t47 =>
 (ibin .eql .no t47 (.int .i64 1)).bind fun t48 =>
 some ([t48], H6))
 else some ([Value.tuple #[]], H6)) fun vs3 H8 =>
 (pickK t44 (nthV 0 vs3) (.bool false)).bind fun t49 =>
 (gval true t49).bind fun w4 => grpK (bif w4 then
 ((iidx 1 t37 (.int .i64 0)).bind fun t52 =>
 (hload false 1 H8 t52).bind fun t53 =>
 (ibin .eql .no t53 (.int .i64 5)).bind fun t54 =>
 some ([t54], H8))
 else some ([Value.tuple #[]], H8)) fun vs4 H9 =>
 (pickK t49 (nthV 0 vs4) (.bool false)).bind fun t55 =>
 some (.ret t55, H9)))
def F4 (N lim : Nat) (H : IHeap) : RV := B4 N (F6 N) (F7 N) (F8 N) (F10 N) (F11 N) lim H
def G4 (N : Nat) : G := w0 (F4 N)
theorem eq4 (N : Nat) (g6 : RF0) (g7 : RF1) (g8 : RF2) (g10 : RF2) (g11 : RF1) (lim : Nat) (H : IHeap) : ifun Tryz.prog { fn := envOf [(6, Ideal.w0 g6), (7, Ideal.w1 g7), (8, Ideal.w2 g8), (10, Ideal.w2 g10), (11, Ideal.w1 g11)], wr := [6, 10] } { promo := [1, 4], share := false } N (okOf Tryz.prog { promo := [1, 4], share := false } [6, 10]) Tryz.f4 (.seq (.region []) (.seq (.region []) (.seq (.region []) (.seq (.seq (.region [[25]]) (.inl (.seq (.region []) .leaf) .leaf)) (.seq (.region []) (.seq (.region []) (.seq (.region [[43], [48], [54]]) .leaf))))))) lim [] H = B4 N g6 g7 g8 g10 g11 lim H := by kernel_rfl
theorem sim4 (N : Nat) : SimF Tryz.prog 4 (G4 N) := by
  refine SimF.gen [(6, G6 N), (7, G7 N), (8, G8 N), (10, G10 N), (11, G11 N)] [6, 10] { promo := [1, 4], share := false } N (.seq (.region []) (.seq (.region []) (.seq (.region []) (.seq (.seq (.region [[25]]) (.inl (.seq (.region []) .leaf) .leaf)) (.seq (.region []) (.seq (.region []) (.seq (.region [[43], [48], [54]]) .leaf))))))) Tryz.func4 (by kernel_rfl) (by kernel_rfl) (env_cons (sim6 N) (env_cons (sim7 N) (env_cons (sim8 N) (env_cons (sim10 N) (env_cons (sim11 N) env_nil))))) ?_
  intro lim args H r h
  unfold G4 w0 at h
  split at h
  · exact (eq4 N (F6 N) (F7 N) (F8 N) (F10 N) (F11 N) lim H).trans h
  · simp at h
/-- besom/besomlaw24.Right -/
def B12 (N : Nat) (lim : Nat) (c0 : Value) (H : IHeap) : RV :=
 retK ((cellsOf true 5 c0).bind fun cs1 =>
 (iload false 1 cs1 0).bind fun t4 =>
 (ibin .geq .no t4 (.int .i64 1)).bind fun t5 =>
 (gval true t5).bind fun w1 => grpK (bif w1 then
 ((iload false 1 cs1 0).bind fun t8 =>
 (ibin .leq .no t8 (.int .i64 64)).bind fun t9 =>
 some ([t9], H))
 else some ([Value.tuple #[]], H)) fun vs1 H1 =>
 (pickK t5 (nthV 0 vs1) (.bool false)).bind fun t10 =>
 (gval true t10).bind fun w2 => grpK (bif w2 then
 ((iload false 1 cs1 2).bind fun t13 =>
 (ibin .geq .no t13 (.int .i64 1)).bind fun t14 =>
 some ([t14], H1))
 else some ([Value.tuple #[]], H1)) fun vs2 H2 =>
 (pickK t10 (nthV 0 vs2) (.bool false)).bind fun t15 =>
 (gval true t15).bind fun w3 => grpK (bif w3 then
 ((iload false 1 cs1 2).bind fun t18 =>
 (ibin .leq .no t18 (.int .i64 4096)).bind fun t19 =>
 some ([t19], H2))
 else some ([Value.tuple #[]], H2)) fun vs3 H3 =>
 (pickK t15 (nthV 0 vs3) (.bool false)).bind fun t20 =>
 (gval true t20).bind fun w4 => grpK (bif w4 then
 ((iload false 1 cs1 1).bind fun t23 =>
 (ibin .geq .no t23 (.int .i64 1)).bind fun t24 =>
 some ([t24], H3))
 else some ([Value.tuple #[]], H3)) fun vs4 H4 =>
 (pickK t20 (nthV 0 vs4) (.bool false)).bind fun t25 =>
 (gval true t25).bind fun w5 => grpK (bif w5 then
 ((iload false 1 cs1 1).bind fun t28 =>
 (iload false 1 cs1 2).bind fun t30 =>
 (ibin .leq .no t28 t30).bind fun t31 =>
 some ([t31], H4))
 else some ([Value.tuple #[]], H4)) fun vs5 H5 =>
 (pickK t25 (nthV 0 vs5) (.bool false)).bind fun t32 =>
 (gval true t32).bind fun w6 => grpK (bif w6 then
 ((iload false 1 cs1 3).bind fun t35 =>
 (ibin .geq .no t35 (.int .i64 1)).bind fun t36 =>
 some ([t36], H5))
 else some ([Value.tuple #[]], H5)) fun vs6 H6 =>
 (pickK t32 (nthV 0 vs6) (.bool false)).bind fun t37 =>
 (gval true t37).bind fun w7 => grpK (bif w7 then
 ((iload false 1 cs1 3).bind fun t40 =>
 (ibin .leq .no t40 (.int .i64 1000000)).bind fun t41 =>
 some ([t41], H6))
 else some ([Value.tuple #[]], H6)) fun vs7 H7 =>
 (pickK t37 (nthV 0 vs7) (.bool false)).bind fun t42 =>
 (gval true t42).bind fun w8 => grpK (bif w8 then
 ((iload false 1 cs1 4).bind fun t45 =>
 (ibin .geq .no t45 (.int .i64 1)).bind fun t46 =>
 some ([t46], H7))
 else some ([Value.tuple #[]], H7)) fun vs8 H8 =>
 (pickK t42 (nthV 0 vs8) (.bool false)).bind fun t47 =>
 (gval true t47).bind fun w9 => grpK (bif w9 then
 ((iload false 1 cs1 4).bind fun t50 =>
 (ibin .leq .no t50 (.int .i64 1000)).bind fun t51 =>
 some ([t51], H8))
 else some ([Value.tuple #[]], H8)) fun vs9 H9 =>
 (pickK t47 (nthV 0 vs9) (.bool false)).bind fun t52 =>
 some (.ret t52, H9))
def F12 (N lim : Nat) (a0 : Value) (H : IHeap) : RV := B12 N lim a0 H
def G12 (N : Nat) : G := w1 (F12 N)
theorem eq12 (N : Nat) (lim : Nat) (a0 : Value) (H : IHeap) : ifun Tryz.prog { fn := envOf [], wr := [] } { promo := [1], share := false } N (okOf Tryz.prog { promo := [1], share := false } []) Tryz.f12 (.seq (.region []) (.seq (.region [[9], [14], [19], [24], [31], [36], [41], [46], [51]]) .leaf)) lim [a0] H = B12 N lim a0 H := by kernel_rfl
theorem sim12 (N : Nat) : SimF Tryz.prog 12 (G12 N) := by
  refine SimF.gen [] [] { promo := [1], share := false } N (.seq (.region []) (.seq (.region [[9], [14], [19], [24], [31], [36], [41], [46], [51]]) .leaf)) Tryz.func12 (by kernel_rfl) (by kernel_rfl) env_nil ?_
  intro lim args H r h
  unfold G12 w1 at h
  split at h
  · exact (eq12 N lim _ H).trans h
  · simp at h
/-- besom/besomref1.Shapes -/
def B80 (N : Nat) (lim : Nat) (l0 : Value) (H : IHeap) : RV :=
 retK ((ilenS l0).bind fun t6 =>
 (ibin .gtr .no t6 (.int .i64 16)).bind fun t7 =>
 (boolK t7 fun b1 => bif b1 then
 (some (.ret (.int .i64 1), H))
 else
 catchK 0 (iloop (fun vs1 H1 =>
 (ilenS l0).bind fun t10 =>
 (ibin .lss .no (nthV 0 vs1) t10).bind fun t11 =>
 (boolK t11 fun b2 => bif b2 then
 (catchK 1 ((iidx 1 l0 (nthV 0 vs1)).bind fun t16 =>
 (paddr 0 t16).bind fun t17 =>
 (hload false 1 H1 t17).bind fun t18 =>
 (ilenS t18).bind fun t19 =>
 (ibin .lss .no t19 (.int .i64 1)).bind fun t20 =>
 (gval false t20).bind fun w1 => grpK (bif w1 then
 ((iidx 1 l0 (nthV 0 vs1)).bind fun t24 =>
 (paddr 0 t24).bind fun t25 =>
 (hload false 1 H1 t25).bind fun t26 =>
 (ilenS t26).bind fun t27 =>
 (ibin .gtr .no t27 (.int .i64 16)).bind fun t28 =>
 some ([t28], H1))
 else some ([Value.tuple #[]], H1)) fun vs2 H2 =>
 (pickK t20 (.bool true) (nthV 0 vs2)).bind fun t29 =>
 (boolK t29 fun b4 => bif b4 then
 (some (.ret (.int .i64 1), H2))
 else
 catchK 2 (iloop (fun vs3 H3 =>
 (iidx 1 l0 (nthV 0 vs1)).bind fun t33 =>
 (paddr 0 t33).bind fun t34 =>
 (hload false 1 H3 t34).bind fun t35 =>
 (ilenS t35).bind fun t36 =>
 (ibin .lss .no (nthV 0 vs3) t36).bind fun t37 =>
 (boolK t37 fun b5 => bif b5 then
 (catchK 3 ((iidx 1 l0 (nthV 0 vs1)).bind fun t42 =>
 (paddr 0 t42).bind fun t43 =>
 (hload false 1 H3 t43).bind fun t44 =>
 (iidx 1 t44 (nthV 0 vs3)).bind fun t46 =>
 (hload false 1 H3 t46).bind fun t47 =>
 (ilenS l0).bind fun t49 =>
 none) fun vs4 H4 =>
 (ibin .add .no (nthV 0 vs3) (.int .i64 1)).bind fun t39 =>
 some (.norm ([t39] ++ []), H4))
 else
 some (.exit 2 ([] ++ []), H3))) N ([(.int .i64 0)] ++ []) H2) fun vs5 H5 =>
 some (.norm ([] ++ []), H5))) fun vs6 H6 =>
 (ibin .add .no (nthV 0 vs1) (.int .i64 1)).bind fun t13 =>
 some (.norm ([t13] ++ []), H6))
 else
 some (.exit 0 ([] ++ []), H1))) N ([(.int .i64 0)] ++ []) H) fun vs7 H7 =>
 some (.ret (.int .i64 0), H7)))
def F80 (N lim : Nat) (a0 : Value) (H : IHeap) : RV := B80 N lim a0 H
def G80 (N : Nat) : G := w1 (F80 N)
theorem eq80 (N : Nat) (lim : Nat) (a0 : Value) (H : IHeap) : ifun Tryz.prog { fn := envOf [], wr := [] } { promo := [], share := false } N (okOf Tryz.prog { promo := [], share := false } []) Tryz.f80 (.seq (.region []) (.seq (.seq (.region []) (.inl (.seq (.region []) .leaf) .leaf)) (.seq (.seq (.region []) (.block [] [] [] (.loop [3] [] [] (.seq (.seq (.region []) (.inl .leaf .leaf)) (.seq (.block [] [] [] (.seq (.seq (.region [[28]]) (.inl (.seq (.region []) .leaf) .leaf)) (.seq (.region []) (.block [] [] [] (.loop [4] [] [] (.seq (.seq (.region []) (.inl .leaf .leaf)) (.seq (.block [] [] [] (.seq (.region []) (.inl (.seq (.region []) .leaf) .leaf))) (.region [])))))))) (.region [])))))) (.seq (.region []) .leaf)))) lim [a0] H = B80 N lim a0 H := by kernel_rfl
theorem sim80 (N : Nat) : SimF Tryz.prog 80 (G80 N) := by
  refine SimF.gen [] [] { promo := [], share := false } N (.seq (.region []) (.seq (.seq (.region []) (.inl (.seq (.region []) .leaf) .leaf)) (.seq (.seq (.region []) (.block [] [] [] (.loop [3] [] [] (.seq (.seq (.region []) (.inl .leaf .leaf)) (.seq (.block [] [] [] (.seq (.seq (.region [[28]]) (.inl (.seq (.region []) .leaf) .leaf)) (.seq (.region []) (.block [] [] [] (.loop [4] [] [] (.seq (.seq (.region []) (.inl .leaf .leaf)) (.seq (.block [] [] [] (.seq (.region []) (.inl (.seq (.region []) .leaf) .leaf))) (.region [])))))))) (.region [])))))) (.seq (.region []) .leaf)))) Tryz.func80 (by kernel_rfl) (by kernel_rfl) env_nil ?_
  intro lim args H r h
  unfold G80 w1 at h
  split at h
  · exact (eq80 N lim _ H).trans h
  · simp at h
/-- besom/besomref1.operands -/
def B227 (N : Nat) (lim : Nat) (op0 : Value) (H : IHeap) : RV :=
 retK (catchK 0 ((ibin .eql .no op0 (.int .i64 0)).bind fun t5 =>
 joinK (boolK t5 fun b1 => bif b1 then
 (some (.norm ([t5] ++ []), H))
 else
 (ibin .eql .no op0 (.int .i64 27)).bind fun t6 =>
 joinK (boolK t6 fun b2 => bif b2 then
 (some (.norm ([t6] ++ []), H))
 else
 (ibin .eql .no op0 (.int .i64 28)).bind fun t7 =>
 some (.norm ([t7] ++ []), H)) fun vs1 H1 =>
 some (.norm ([(nthV 0 vs1)] ++ []), H1)) fun vs2 H2 =>
 (boolK (nthV 0 vs2) fun b3 => bif b3 then
 (some (.ret (.string ⟨#[45, 45, 45]⟩), H2))
 else
 (ibin .eql .no op0 (.int .i64 1)).bind fun t9 =>
 (boolK t9 fun b4 => bif b4 then
 (some (.ret (.string ⟨#[115, 110, 45]⟩), H2))
 else
 (ibin .eql .no op0 (.int .i64 2)).bind fun t11 =>
 joinK (boolK t11 fun b5 => bif b5 then
 (some (.norm ([t11] ++ []), H2))
 else
 (ibin .eql .no op0 (.int .i64 12)).bind fun t12 =>
 some (.norm ([t12] ++ []), H2)) fun vs3 H3 =>
 (boolK (nthV 0 vs3) fun b6 => bif b6 then
 (some (.ret (.string ⟨#[115, 115, 45]⟩), H3))
 else
 (ibin .eql .no op0 (.int .i64 3)).bind fun t14 =>
 joinK (boolK t14 fun b7 => bif b7 then
 (some (.norm ([t14] ++ []), H3))
 else
 (ibin .eql .no op0 (.int .i64 4)).bind fun t15 =>
 joinK (boolK t15 fun b8 => bif b8 then
 (some (.norm ([t15] ++ []), H3))
 else
 (ibin .eql .no op0 (.int .i64 5)).bind fun t16 =>
 joinK (boolK t16 fun b9 => bif b9 then
 (some (.norm ([t16] ++ []), H3))
 else
 (ibin .eql .no op0 (.int .i64 6)).bind fun t17 =>
 joinK (boolK t17 fun b10 => bif b10 then
 (some (.norm ([t17] ++ []), H3))
 else
 (ibin .eql .no op0 (.int .i64 7)).bind fun t18 =>
 joinK (boolK t18 fun b11 => bif b11 then
 (some (.norm ([t18] ++ []), H3))
 else
 (ibin .eql .no op0 (.int .i64 8)).bind fun t19 =>
 some (.norm ([t19] ++ []), H3)) fun vs4 H4 =>
 some (.norm ([(nthV 0 vs4)] ++ []), H4)) fun vs5 H5 =>
 some (.norm ([(nthV 0 vs5)] ++ []), H5)) fun vs6 H6 =>
 some (.norm ([(nthV 0 vs6)] ++ []), H6)) fun vs7 H7 =>
 some (.norm ([(nthV 0 vs7)] ++ []), H7)) fun vs8 H8 =>
 (boolK (nthV 0 vs8) fun b12 => bif b12 then
 (some (.ret (.string ⟨#[115, 115, 115]⟩), H8))
 else
 (ibin .eql .no op0 (.int .i64 9)).bind fun t21 =>
 (boolK t21 fun b13 => bif b13 then
 (some (.ret (.string ⟨#[45, 116, 45]⟩), H8))
 else
 (ibin .eql .no op0 (.int .i64 10)).bind fun t23 =>
 (boolK t23 fun b14 => bif b14 then
 (some (.ret (.string ⟨#[115, 116, 45]⟩), H8))
 else
 (ibin .eql .no op0 (.int .i64 11)).bind fun t25 =>
 joinK (boolK t25 fun b15 => bif b15 then
 (some (.norm ([t25] ++ []), H8))
 else
 (ibin .eql .no op0 (.int .i64 13)).bind fun t26 =>
 some (.norm ([t26] ++ []), H8)) fun vs9 H9 =>
 (boolK (nthV 0 vs9) fun b16 => bif b16 then
 (some (.ret (.string ⟨#[115, 112, 45]⟩), H9))
 else
 (ibin .eql .no op0 (.int .i64 14)).bind fun t28 =>
 joinK (boolK t28 fun b17 => bif b17 then
 (some (.norm ([t28] ++ []), H9))
 else
 (ibin .eql .no op0 (.int .i64 19)).bind fun t29 =>
 some (.norm ([t29] ++ []), H9)) fun vs10 H10 =>
 (boolK (nthV 0 vs10) fun b18 => bif b18 then
 (some (.ret (.string ⟨#[115, 115, 105]⟩), H10))
 else
 (ibin .eql .no op0 (.int .i64 15)).bind fun t31 =>
 joinK (boolK t31 fun b19 => bif b19 then
 (some (.norm ([t31] ++ []), H10))
 else
 (ibin .eql .no op0 (.int .i64 20)).bind fun t32 =>
 some (.norm ([t32] ++ []), H10)) fun vs11 H11 =>
 (boolK (nthV 0 vs11) fun b20 => bif b20 then
 (some (.ret (.string ⟨#[115, 105, 115]⟩), H11))
 else
 (ibin .eql .no op0 (.int .i64 16)).bind fun t34 =>
 (boolK t34 fun b21 => bif b21 then
 (some (.ret (.string ⟨#[115, 103, 45]⟩), H11))
 else
 (ibin .eql .no op0 (.int .i64 17)).bind fun t36 =>
 (boolK t36 fun b22 => bif b22 then
 (some (.ret (.string ⟨#[103, 115, 45]⟩), H11))
 else
 (ibin .eql .no op0 (.int .i64 18)).bind fun t38 =>
 (boolK t38 fun b23 => bif b23 then
 (some (.ret (.string ⟨#[115, 111, 45]⟩), H11))
 else
 (ibin .eql .no op0 (.int .i64 21)).bind fun t40 =>
 (boolK t40 fun b24 => bif b24 then
 (some (.ret (.string ⟨#[114, 102, 97]⟩), H11))
 else
 (ibin .eql .no op0 (.int .i64 22)).bind fun t42 =>
 (boolK t42 fun b25 => bif b25 then
 (some (.ret (.string ⟨#[114, 45, 45]⟩), H11))
 else
 (ibin .eql .no op0 (.int .i64 23)).bind fun t44 =>
 joinK (boolK t44 fun b26 => bif b26 then
 (some (.norm ([t44] ++ []), H11))
 else
 (ibin .eql .no op0 (.int .i64 24)).bind fun t45 =>
 some (.norm ([t45] ++ []), H11)) fun vs12 H12 =>
 (boolK (nthV 0 vs12) fun b27 => bif b27 then
 (some (.ret (.string ⟨#[45, 102, 97]⟩), H12))
 else
 (ibin .eql .no op0 (.int .i64 25)).bind fun t47 =>
 joinK (boolK t47 fun b28 => bif b28 then
 (some (.norm ([t47] ++ []), H12))
 else
 (ibin .eql .no op0 (.int .i64 26)).bind fun t48 =>
 some (.norm ([t48] ++ []), H12)) fun vs13 H13 =>
 (boolK (nthV 0 vs13) fun b29 => bif b29 then
 (some (.ret (.string ⟨#[115, 115, 45]⟩), H13))
 else
 (ibin .eql .no op0 (.int .i64 29)).bind fun t50 =>
 (boolK t50 fun b30 => bif b30 then
 (some (.ret (.string ⟨#[115, 45, 45]⟩), H13))
 else
 some (.norm ([] ++ []), H13))))))))))))))))))) fun vs14 H14 =>
 some (.ret (.string ⟨#[]⟩), H14))
def F227 (N lim : Nat) (a0 : Value) (H : IHeap) : RV := B227 N lim a0 H
def G227 (N : Nat) : G := w1 (F227 N)
theorem eq227 (N : Nat) (lim : Nat) (a0 : Value) (H : IHeap) : ifun Tryz.prog { fn := envOf [], wr := [] } { promo := [], share := false } N (okOf Tryz.prog { promo := [], share := false } []) Tryz.f227 (.seq (.region []) (.seq (.seq (.region []) (.block [] [] [] (.seq (.seq (.region []) (.join [4] [] [] .leaf (.seq (.region []) (.join [4] [] [] .leaf (.region []))))) (.inl (.seq (.region []) .leaf) (.seq (.region []) (.inl (.seq (.region []) .leaf) (.seq (.seq (.region []) (.join [10] [] [] .leaf (.region []))) (.inl (.seq (.region []) .leaf) (.seq (.seq (.region []) (.join [13] [] [] .leaf (.seq (.region []) (.join [13] [] [] .leaf (.seq (.region []) (.join [13] [] [] .leaf (.seq (.region []) (.join [13] [] [] .leaf (.seq (.region []) (.join [13] [] [] .leaf (.region []))))))))))) (.inl (.seq (.region []) .leaf) (.seq (.region []) (.inl (.seq (.region []) .leaf) (.seq (.region []) (.inl (.seq (.region []) .leaf) (.seq (.seq (.region []) (.join [24] [] [] .leaf (.region []))) (.inl (.seq (.region []) .leaf) (.seq (.seq (.region []) (.join [27] [] [] .leaf (.region []))) (.inl (.seq (.region []) .leaf) (.seq (.seq (.region []) (.join [30] [] [] .leaf (.region []))) (.inl (.seq (.region []) .leaf) (.seq (.region []) (.inl (.seq (.region []) .leaf) (.seq (.region []) (.inl (.seq (.region []) .leaf) (.seq (.region []) (.inl (.seq (.region []) .leaf) (.seq (.region []) (.inl (.seq (.region []) .leaf) (.seq (.region []) (.inl (.seq (.region []) .leaf) (.seq (.seq (.region []) (.join [43] [] [] .leaf (.region []))) (.inl (.seq (.region []) .leaf) (.seq (.seq (.region []) (.join [46] [] [] .leaf (.region []))) (.inl (.seq (.region []) .leaf) (.seq (.region []) (.inl (.seq (.region []) .leaf) .leaf)))))))))))))))))))))))))))))))))))) (.seq (.region []) .leaf))) lim [a0] H = B227 N lim a0 H := by kernel_rfl
theorem sim227 (N : Nat) : SimF Tryz.prog 227 (G227 N) := by
  refine SimF.gen [] [] { promo := [], share := false } N (.seq (.region []) (.seq (.seq (.region []) (.block [] [] [] (.seq (.seq (.region []) (.join [4] [] [] .leaf (.seq (.region []) (.join [4] [] [] .leaf (.region []))))) (.inl (.seq (.region []) .leaf) (.seq (.region []) (.inl (.seq (.region []) .leaf) (.seq (.seq (.region []) (.join [10] [] [] .leaf (.region []))) (.inl (.seq (.region []) .leaf) (.seq (.seq (.region []) (.join [13] [] [] .leaf (.seq (.region []) (.join [13] [] [] .leaf (.seq (.region []) (.join [13] [] [] .leaf (.seq (.region []) (.join [13] [] [] .leaf (.seq (.region []) (.join [13] [] [] .leaf (.region []))))))))))) (.inl (.seq (.region []) .leaf) (.seq (.region []) (.inl (.seq (.region []) .leaf) (.seq (.region []) (.inl (.seq (.region []) .leaf) (.seq (.seq (.region []) (.join [24] [] [] .leaf (.region []))) (.inl (.seq (.region []) .leaf) (.seq (.seq (.region []) (.join [27] [] [] .leaf (.region []))) (.inl (.seq (.region []) .leaf) (.seq (.seq (.region []) (.join [30] [] [] .leaf (.region []))) (.inl (.seq (.region []) .leaf) (.seq (.region []) (.inl (.seq (.region []) .leaf) (.seq (.region []) (.inl (.seq (.region []) .leaf) (.seq (.region []) (.inl (.seq (.region []) .leaf) (.seq (.region []) (.inl (.seq (.region []) .leaf) (.seq (.region []) (.inl (.seq (.region []) .leaf) (.seq (.seq (.region []) (.join [43] [] [] .leaf (.region []))) (.inl (.seq (.region []) .leaf) (.seq (.seq (.region []) (.join [46] [] [] .leaf (.region []))) (.inl (.seq (.region []) .leaf) (.seq (.region []) (.inl (.seq (.region []) .leaf) .leaf)))))))))))))))))))))))))))))))))))) (.seq (.region []) .leaf))) Tryz.func227 (by kernel_rfl) (by kernel_rfl) env_nil ?_
  intro lim args H r h
  unfold G227 w1 at h
  split at h
  · exact (eq227 N lim _ H).trans h
  · simp at h
/-- besom/besomref1.Uses -/
def B285 (N : Nat) (g227 : RF1) (lim : Nat) (op0 : Value) (H : IHeap) : RV :=
 retK (callK (g227 lim op0 H) fun t7 H1 =>
 (ibin .eql .no t7 (.string ⟨#[]⟩)).bind fun t9 =>
 (boolK t9 fun b1 => bif b1 then
 (some (.ret (.tuple ⟨[(.bool false), (.bool false), (.bool false)]⟩), H1))
 else
 (iindexS t7 (.int .i64 0)).bind fun t11 =>
 (ibin .neq .no t11 (.int .u8 45)).bind fun t12 =>
 (iindexS t7 (.int .i64 1)).bind fun t14 =>
 (ibin .neq .no t14 (.int .u8 45)).bind fun t15 =>
 (iindexS t7 (.int .i64 2)).bind fun t17 =>
 (ibin .neq .no t17 (.int .u8 45)).bind fun t18 =>
 some (.ret (.tuple ⟨[t12, t15, t18]⟩), H1)))
def F285 (N lim : Nat) (a0 : Value) (H : IHeap) : RV := B285 N (F227 N) lim a0 H
def G285 (N : Nat) : G := w1 (F285 N)
theorem eq285 (N : Nat) (g227 : RF1) (lim : Nat) (a0 : Value) (H : IHeap) : ifun Tryz.prog { fn := envOf [(227, Ideal.w1 g227)], wr := [] } { promo := [], share := false } N (okOf Tryz.prog { promo := [], share := false } []) Tryz.f285 (.seq (.region []) (.seq (.region []) (.seq (.seq (.region []) (.inl (.seq (.region []) .leaf) .leaf)) (.seq (.region []) .leaf)))) lim [a0] H = B285 N g227 lim a0 H := by kernel_rfl
theorem sim285 (N : Nat) : SimF Tryz.prog 285 (G285 N) := by
  refine SimF.gen [(227, G227 N)] [] { promo := [], share := false } N (.seq (.region []) (.seq (.region []) (.seq (.seq (.region []) (.inl (.seq (.region []) .leaf) .leaf)) (.seq (.region []) .leaf)))) Tryz.func285 (by kernel_rfl) (by kernel_rfl) (env_cons (sim227 N) env_nil) ?_
  intro lim args H r h
  unfold G285 w1 at h
  split at h
  · exact (eq285 N (F227 N) lim _ H).trans h
  · simp at h
/-- besom/besomref1.unused -/
def B228 (N : Nat) (g285 : RF1) (lim : Nat) (i0 : Value) (H : IHeap) : RV :=
 retK ((cellsOf true 4 i0).bind fun cs1 =>
 (iload false 1 cs1 0).bind fun t8 =>
 callK (g285 lim t8 H) fun t9 H1 =>
 (iextract 0 t9).bind fun t10 =>
 (iextract 1 t9).bind fun t11 =>
 (iextract 2 t9).bind fun t12 =>
 (gval false t10).bind fun w1 => grpK (bif w1 then
 ((iload false 1 cs1 1).bind fun t16 =>
 (ibin .eql .no t16 (.int .i64 0)).bind fun t17 =>
 some ([t17], H1))
 else some ([Value.tuple #[]], H1)) fun vs1 H2 =>
 (pickK t10 (.bool true) (nthV 0 vs1)).bind fun t18 =>
 (gval true t18).bind fun w2 => grpK (bif w2 then
 (some ([t11], H2))
 else some ([Value.tuple #[]], H2)) fun vs2 H3 =>
 (gval false (nthV 0 vs2)).bind fun w3 => grpK (bif w3 then
 ((iload false 1 cs1 2).bind fun t23 =>
 (ibin .eql .no t23 (.int .i64 0)).bind fun t24 =>
 some ([t24], H3))
 else some ([Value.tuple #[]], H3)) fun vs3 H4 =>
 (gval true t18).bind fun w4 => grpK (bif w4 then
 ((pickK (nthV 0 vs2) (.bool true) (nthV 0 vs3)).bind fun t25 =>
 some ([t25], H4))
 else some ([Value.tuple #[]], H4)) fun vs4 H5 =>
 (pickK t18 (nthV 0 vs4) (.bool false)).bind fun t26 =>
 (gval true t26).bind fun w5 => grpK (bif w5 then
 (some ([t12], H5))
 else some ([Value.tuple #[]], H5)) fun vs5 H6 =>
 (gval false (nthV 0 vs5)).bind fun w6 => grpK (bif w6 then
 ((iload false 1 cs1 3).bind fun t31 =>
 (ibin .eql .no t31 (.int .i64 0)).bind fun t32 =>
 some ([t32], H6))
 else some ([Value.tuple #[]], H6)) fun vs6 H7 =>
 (gval true t26).bind fun w7 => grpK (bif w7 then
 ((pickK (nthV 0 vs5) (.bool true) (nthV 0 vs6)).bind fun t33 =>
 some ([t33], H7))
 else some ([Value.tuple #[]], H7)) fun vs7 H8 =>
 (pickK t26 (nthV 0 vs7) (.bool false)).bind fun t34 =>
 some (.ret t34, H8))
def F228 (N lim : Nat) (a0 : Value) (H : IHeap) : RV := B228 N (F285 N) lim a0 H
def G228 (N : Nat) : G := w1 (F228 N)
theorem eq228 (N : Nat) (g285 : RF1) (lim : Nat) (a0 : Value) (H : IHeap) : ifun Tryz.prog { fn := envOf [(285, Ideal.w1 g285)], wr := [] } { promo := [1], share := false } N (okOf Tryz.prog { promo := [1], share := false } []) Tryz.f228 (.seq (.region []) (.seq (.region []) (.seq (.region [[17], [21], [24], [25], [29], [32], [33]]) .leaf))) lim [a0] H = B228 N g285 lim a0 H := by kernel_rfl
theorem sim228 (N : Nat) : SimF Tryz.prog 228 (G228 N) := by
  refine SimF.gen [(285, G285 N)] [] { promo := [1], share := false } N (.seq (.region []) (.seq (.region []) (.seq (.region [[17], [21], [24], [25], [29], [32], [33]]) .leaf))) Tryz.func228 (by kernel_rfl) (by kernel_rfl) (env_cons (sim285 N) env_nil) ?_
  intro lim args H r h
  unfold G228 w1 at h
  split at h
  · exact (eq228 N (F285 N) lim _ H).trans h
  · simp at h
/-- besom/besomref1.place -/
def B229 (N : Nat) (lim : Nat) (p0 f1 kind2 v3 args4 : Value) (H : IHeap) : RV :=
 retK ((cellsOf true 3 p0).bind fun cs1 =>
 (cellsOf true 5 f1).bind fun cs2 =>
 catchK 0 ((ibin .eql .no kind2 (.int .u8 115)).bind fun t14 =>
 joinK (boolK t14 fun b1 => bif b1 then
 ((iload false 1 cs2 2).bind fun t16 =>
 some (.norm ([t16] ++ []), H))
 else
 (ibin .eql .no kind2 (.int .u8 116)).bind fun t18 =>
 joinK (boolK t18 fun b2 => bif b2 then
 ((iload false 1 cs2 4).bind fun t20 =>
 (ilenS t20).bind fun t21 =>
 some (.norm ([t21] ++ []), H))
 else
 (ibin .eql .no kind2 (.int .u8 102)).bind fun t23 =>
 joinK (boolK t23 fun b3 => bif b3 then
 ((iload false 1 cs1 2).bind fun t25 =>
 (ilenS t25).bind fun t26 =>
 some (.norm ([t26] ++ []), H))
 else
 (ibin .eql .no kind2 (.int .u8 112)).bind fun t28 =>
 joinK (boolK t28 fun b4 => bif b4 then
 ((iload false 1 cs1 1).bind fun t30 =>
 (ilenS t30).bind fun t31 =>
 some (.norm ([t31] ++ []), H))
 else
 (ibin .eql .no kind2 (.int .u8 103)).bind fun t33 =>
 joinK (boolK t33 fun b5 => bif b5 then
 ((iload false 1 cs1 0).bind fun t35 =>
 (ilenS t35).bind fun t36 =>
 some (.norm ([t36] ++ []), H))
 else
 (ibin .eql .no kind2 (.int .u8 111)).bind fun t38 =>
 joinK (boolK t38 fun b6 => bif b6 then
 ((iload false 1 cs2 3).bind fun t40 =>
 (ilenS t40).bind fun t41 =>
 some (.norm ([t41] ++ []), H))
 else
 (ibin .eql .no kind2 (.int .u8 105)).bind fun t43 =>
 (boolK t43 fun b7 => bif b7 then
 (some (.norm ([(.int .i64 16)] ++ []), H))
 else
 (ibin .eql .no kind2 (.int .u8 97)).bind fun t45 =>
 (boolK t45 fun b8 => bif b8 then
 ((ibin .geq .no v3 (.int .i64 0)).bind fun t47 =>
 (gval true t47).bind fun w1 => grpK (bif w1 then
 ((iload false 1 cs2 2).bind fun t51 =>
 (ibin .leq .no args4 t51).bind fun t52 =>
 some ([t52], H))
 else some ([Value.tuple #[]], H)) fun vs1 H1 =>
 (pickK t47 (nthV 0 vs1) (.bool false)).bind fun t53 =>
 (gval true t53).bind fun w2 => grpK (bif w2 then
 ((iload false 1 cs2 2).bind fun t57 =>
 (ibin .sub .no t57 args4).bind fun t59 =>
 (ibin .leq .no v3 t59).bind fun t60 =>
 some ([t60], H1))
 else some ([Value.tuple #[]], H1)) fun vs2 H2 =>
 (pickK t53 (nthV 0 vs2) (.bool false)).bind fun t61 =>
 some (.ret t61, H2))
 else
 some (.ret (.bool true), H)))) fun vs3 H3 =>
 some (.norm ([(nthV 0 vs3)] ++ []), H3)) fun vs4 H4 =>
 some (.norm ([(nthV 0 vs4)] ++ []), H4)) fun vs5 H5 =>
 some (.norm ([(nthV 0 vs5)] ++ []), H5)) fun vs6 H6 =>
 some (.norm ([(nthV 0 vs6)] ++ []), H6)) fun vs7 H7 =>
 some (.norm ([(nthV 0 vs7)] ++ []), H7)) fun vs8 H8 =>
 some (.norm ([(nthV 0 vs8)] ++ []), H8)) fun vs9 H9 =>
 (ibin .geq .no v3 (.int .i64 0)).bind fun t63 =>
 (gval true t63).bind fun w3 => grpK (bif w3 then
 ((ibin .lss .no v3 (nthV 0 vs9)).bind fun t67 =>
 some ([t67], H9))
 else some ([Value.tuple #[]], H9)) fun vs10 H10 =>
 (pickK t63 (nthV 0 vs10) (.bool false)).bind fun t68 =>
 some (.ret t68, H10))
def F229 (N lim : Nat) (a0 a1 a2 a3 a4 : Value) (H : IHeap) : RV := B229 N lim a0 a1 a2 a3 a4 H
def G229 (N : Nat) : G := w5 (F229 N)
theorem eq229 (N : Nat) (lim : Nat) (a0 a1 a2 a3 a4 : Value) (H : IHeap) : ifun Tryz.prog { fn := envOf [], wr := [] } { promo := [5, 6], share := false } N (okOf Tryz.prog { promo := [5, 6], share := false } []) Tryz.f229 (.seq (.region []) (.seq (.region []) (.seq (.seq (.region []) (.block [11] [] [] (.seq (.region []) (.join [11] [] [] (.region []) (.seq (.region []) (.join [11] [] [] (.region []) (.seq (.region []) (.join [11] [] [] (.region []) (.seq (.region []) (.join [11] [] [] (.region []) (.seq (.region []) (.join [11] [] [] (.region []) (.seq (.region []) (.join [11] [] [] (.region []) (.seq (.region []) (.inl (.region []) (.seq (.region []) (.inl (.seq (.region [[52], [60]]) .leaf) (.seq (.region []) .leaf))))))))))))))))))) (.seq (.region [[67]]) .leaf)))) lim [a0, a1, a2, a3, a4] H = B229 N lim a0 a1 a2 a3 a4 H := by kernel_rfl
theorem sim229 (N : Nat) : SimF Tryz.prog 229 (G229 N) := by
  refine SimF.gen [] [] { promo := [5, 6], share := false } N (.seq (.region []) (.seq (.region []) (.seq (.seq (.region []) (.block [11] [] [] (.seq (.region []) (.join [11] [] [] (.region []) (.seq (.region []) (.join [11] [] [] (.region []) (.seq (.region []) (.join [11] [] [] (.region []) (.seq (.region []) (.join [11] [] [] (.region []) (.seq (.region []) (.join [11] [] [] (.region []) (.seq (.region []) (.join [11] [] [] (.region []) (.seq (.region []) (.inl (.region []) (.seq (.region []) (.inl (.seq (.region [[52], [60]]) .leaf) (.seq (.region []) .leaf))))))))))))))))))) (.seq (.region [[67]]) .leaf)))) Tryz.func229 (by kernel_rfl) (by kernel_rfl) env_nil ?_
  intro lim args H r h
  unfold G229 w5 at h
  split at h
  · exact (eq229 N lim _ _ _ _ _ H).trans h
  · simp at h
/-- besom/besomref1.Instr -/
def B153 (N : Nat) (g227 : RF1) (g228 : RF1) (g229 : RF5) (lim : Nat) (p0 fn1 pc2 : Value) (H : IHeap) : RV :=
 retK ((cellsOf true 3 p0).bind fun cs1 =>
 (ibin .lss .no fn1 (.int .i64 0)).bind fun t19 =>
 (gval false t19).bind fun w1 => grpK (bif w1 then
 ((iload false 1 cs1 2).bind fun t23 =>
 (ilenS t23).bind fun t24 =>
 (ibin .geq .no fn1 t24).bind fun t25 =>
 some ([t25], H))
 else some ([Value.tuple #[]], H)) fun vs1 H1 =>
 (pickK t19 (.bool true) (nthV 0 vs1)).bind fun t26 =>
 (gval false t26).bind fun w2 => grpK (bif w2 then
 ((ibin .lss .no pc2 (.int .i64 0)).bind fun t29 =>
 some ([t29], H1))
 else some ([Value.tuple #[]], H1)) fun vs2 H2 =>
 (pickK t26 (.bool true) (nthV 0 vs2)).bind fun t30 =>
 (gval false t30).bind fun w3 => grpK (bif w3 then
 ((iload false 1 cs1 2).bind fun t34 =>
 (iidx 5 t34 fn1).bind fun t36 =>
 (paddr 4 t36).bind fun t37 =>
 (hload false 1 H2 t37).bind fun t38 =>
 (ilenS t38).bind fun t39 =>
 (ibin .geq .no pc2 t39).bind fun t40 =>
 some ([t40], H2))
 else some ([Value.tuple #[]], H2)) fun vs3 H3 =>
 (pickK t30 (.bool true) (nthV 0 vs3)).bind fun t41 =>
 (boolK t41 fun b4 => bif b4 then
 (some (.ret (.int .i64 1), H3))
 else
 (iload false 1 cs1 2).bind fun t43 =>
 (iidx 5 t43 fn1).bind fun t45 =>
 (hload true 5 H3 t45).bind fun t46 =>
 (istore true 5 [(.slice none 0 0), (.int .i64 0), (.int .i64 0), (.slice none 0 0), (.slice none 0 0)] 0 t46).bind fun cs2 =>
 (iload false 1 cs2 4).bind fun t48 =>
 (iidx 4 t48 pc2).bind fun t50 =>
 (hload true 4 H3 t50).bind fun t51 =>
 (istore true 4 [(.int .i64 0), (.int .i64 0), (.int .i64 0), (.int .i64 0)] 0 t51).bind fun cs3 =>
 (iload false 1 cs3 0).bind fun t53 =>
 callK (g227 lim t53 H3) fun t54 H4 =>
 (ibin .eql .no t54 (.string ⟨#[]⟩)).bind fun t56 =>
 (gval false t56).bind fun w4 => grpK (bif w4 then
 ((iload true 4 cs3 0).bind fun t58 =>
 callK (g228 lim t58 H4) fun t59 H6 =>
 (iun .not t59).bind fun t60 =>
 some ([t60], H6))
 else some ([Value.tuple #[]], H4)) fun vs4 H5 =>
 (pickK t56 (.bool true) (nthV 0 vs4)).bind fun t61 =>
 (boolK t61 fun b6 => bif b6 then
 (some (.ret (.int .i64 2), H5))
 else
 (iload false 1 cs3 1).bind fun t63 =>
 (iload false 1 cs3 2).bind fun t65 =>
 (iload false 1 cs3 3).bind fun t67 =>
 (istore false 1 [(.int .i64 0), (.int .i64 0), (.int .i64 0)] 0 t63).bind fun cs4 =>
 (istore false 1 cs4 1 t65).bind fun cs5 =>
 (istore false 1 cs5 2 t67).bind fun cs6 =>
 (iindexS t54 (.int .i64 1)).bind fun t70 =>
 (ibin .eql .no t70 (.int .u8 102)).bind fun t71 =>
 (gval true t71).bind fun w5 => grpK (bif w5 then
 ((iload false 1 cs3 2).bind fun t74 =>
 (ibin .geq .no t74 (.int .i64 0)).bind fun t75 =>
 some ([t75], (H5.push (.cells cs6 0))))
 else some ([Value.tuple #[]], (H5.push (.cells cs6 0)))) fun vs5 H7 =>
 (pickK t71 (nthV 0 vs5) (.bool false)).bind fun t76 =>
 (gval true t76).bind fun w6 => grpK (bif w6 then
 ((iload false 1 cs3 2).bind fun t79 =>
 (iload false 1 cs1 2).bind fun t81 =>
 (ilenS t81).bind fun t82 =>
 (ibin .lss .no t79 t82).bind fun t83 =>
 some ([t83], H7))
 else some ([Value.tuple #[]], H7)) fun vs6 H8 =>
 (pickK t76 (nthV 0 vs6) (.bool false)).bind fun t84 =>
 (iload false 1 cs2 1).bind fun t86 =>
 joinK (boolK t84 fun b9 => bif b9 then
 ((iload false 1 cs1 2).bind fun t89 =>
 (iload false 1 cs3 2).bind fun t91 =>
 (iidx 5 t89 t91).bind fun t92 =>
 (paddr 1 t92).bind fun t93 =>
 (hload false 1 H8 t93).bind fun t94 =>
 (iload false 1 cs1 2).bind fun t96 =>
 (iload false 1 cs3 2).bind fun t98 =>
 (iidx 5 t96 t98).bind fun t99 =>
 (paddr 0 t99).bind fun t100 =>
 (hload false 1 H8 t100).bind fun t101 =>
 (ilenS t101).bind fun t102 =>
 some (.norm ([t94, t102] ++ []), H8))
 else
 some (.norm ([t86, (.int .i64 0)] ++ []), H8)) fun vs7 H9 =>
 (iindexS t54 (.int .i64 1)).bind fun t104 =>
 (ibin .eql .no t104 (.int .u8 102)).bind fun t105 =>
 (gval true t105).bind fun w7 => grpK (bif w7 then
 ((iun .not t84).bind fun t108 =>
 some ([t108], H9))
 else some ([Value.tuple #[]], H9)) fun vs8 H10 =>
 (pickK t105 (nthV 0 vs8) (.bool false)).bind fun t109 =>
 (boolK t109 fun b11 => bif b11 then
 (some (.ret (.int .i64 4), H10))
 else
 catchK 0 (iloop (fun vs9 H11 =>
 (ibin .lss .no (nthV 1 vs9) (.int .i64 3)).bind fun t111 =>
 (boolK t111 fun b12 => bif b12 then
 (catchK 1 ((iindexS t54 (nthV 1 vs9)).bind fun t116 =>
 (ibin .eql .no t116 (.int .u8 114)).bind fun t117 =>
 joinK (boolK t117 fun b13 => bif b13 then
 ((ibin .eql .no (nthV 0 vs7) (.int .i64 0)).bind fun t119 =>
 (gval true t119).bind fun w8 => grpK (bif w8 then
 ((iidx 1 (slc 1 H5.next 0 3 4) (nthV 1 vs9)).bind fun t123 =>
 (hload false 1 H11 t123).bind fun t124 =>
 (ibin .neq .no t124 (.int .i64 0)).bind fun t125 =>
 some ([t125], H11))
 else some ([Value.tuple #[]], H11)) fun vs10 H12 =>
 (pickK t119 (nthV 0 vs10) (.bool false)).bind fun t126 =>
 (boolK t126 fun b15 => bif b15 then
 (some (.ret (.int .i64 2), H12))
 else
 (gval false (nthV 0 vs9)).bind fun w9 => grpK (bif w9 then
 ((ibin .neq .no (nthV 0 vs7) (.int .i64 0)).bind fun t130 =>
 some ([t130], H12))
 else some ([Value.tuple #[]], H12)) fun vs11 H13 =>
 (gval true (nthV 0 vs11)).bind fun w10 => grpK (bif w10 then
 ((iload true 3 cs1 0).bind fun t132 =>
 (iload true 5 cs2 0).bind fun t133 =>
 (iidx 1 (slc 1 H5.next 0 3 4) (nthV 1 vs9)).bind fun t136 =>
 (hload false 1 H13 t136).bind fun t137 =>
 callK (g229 lim t132 t133 (.int .u8 115) t137 (.int .i64 0) H13) fun t138 H15 =>
 (iun .not t138).bind fun t139 =>
 some ([t139], H15))
 else some ([Value.tuple #[]], H13)) fun vs12 H14 =>
 (gval false (nthV 0 vs9)).bind fun w11 => grpK (bif w11 then
 ((pickK (nthV 0 vs11) (nthV 0 vs12) (.bool false)).bind fun t140 =>
 some ([t140], H14))
 else some ([Value.tuple #[]], H14)) fun vs13 H16 =>
 (pickK (nthV 0 vs9) (.bool true) (nthV 0 vs13)).bind fun t141 =>
 some (.norm ([t141] ++ []), H16)))
 else
 (gval false (nthV 0 vs9)).bind fun w12 => grpK (bif w12 then
 ((iload true 3 cs1 0).bind fun t144 =>
 (iload true 5 cs2 0).bind fun t145 =>
 (iindexS t54 (nthV 1 vs9)).bind fun t148 =>
 (iidx 1 (slc 1 H5.next 0 3 4) (nthV 1 vs9)).bind fun t151 =>
 (hload false 1 H11 t151).bind fun t152 =>
 callK (g229 lim t144 t145 t148 t152 (nthV 1 vs7) H11) fun t154 H18 =>
 (iun .not t154).bind fun t155 =>
 some ([t155], H18))
 else some ([Value.tuple #[]], H11)) fun vs14 H17 =>
 (pickK (nthV 0 vs9) (.bool true) (nthV 0 vs14)).bind fun t156 =>
 some (.norm ([t156] ++ []), H17)) fun vs15 H19 =>
 some (.norm ([(nthV 0 vs15)] ++ []), H19)) fun vs16 H20 =>
 (ibin .add .no (nthV 1 vs9) (.int .i64 1)).bind fun t113 =>
 some (.norm ([(nthV 0 vs16), t113] ++ []), H20))
 else
 some (.exit 0 ([(nthV 0 vs9)] ++ []), H11))) N ([(.bool false), (.int .i64 0)] ++ []) H10) fun vs17 H21 =>
 (boolK (nthV 0 vs17) fun b19 => bif b19 then
 (some (.ret (.int .i64 4), H21))
 else
 (iload false 1 cs3 0).bind fun t159 =>
 (ibin .eql .no t159 (.int .i64 23)).bind fun t160 =>
 (gval false t160).bind fun w13 => grpK (bif w13 then
 ((iload false 1 cs3 0).bind fun t163 =>
 (ibin .eql .no t163 (.int .i64 24)).bind fun t164 =>
 some ([t164], H21))
 else some ([Value.tuple #[]], H21)) fun vs18 H22 =>
 (pickK t160 (.bool true) (nthV 0 vs18)).bind fun t165 =>
 joinK (boolK t165 fun b21 => bif b21 then
 ((iload false 1 cs1 2).bind fun t167 =>
 (iload false 1 cs3 2).bind fun t169 =>
 (iidx 5 t167 t169).bind fun t170 =>
 (hload true 5 H22 t170).bind fun t171 =>
 (istore true 5 [(.slice none 0 0), (.int .i64 0), (.int .i64 0), (.slice none 0 0), (.slice none 0 0)] 0 t171).bind fun cs7 =>
 catchK 2 (iloop (fun vs19 H23 =>
 (iload false 1 cs7 0).bind fun t174 =>
 (ilenS t174).bind fun t175 =>
 (ibin .lss .no (nthV 0 vs19) t175).bind fun t176 =>
 (boolK t176 fun b22 => bif b22 then
 (catchK 3 ((iload false 1 cs7 0).bind fun t180 =>
 (iidx 1 t180 (nthV 0 vs19)).bind fun t182 =>
 (hload false 1 H23 t182).bind fun t183 =>
 none) fun vs20 H24 =>
 (ibin .add .no (nthV 0 vs19) (.int .i64 1)).bind fun t178 =>
 some (.norm ([t178] ++ []), H24))
 else
 some (.exit 2 ([] ++ []), H23))) N ([(.int .i64 0)] ++ []) H22) fun vs21 H25 =>
 (iload false 1 cs7 1).bind fun t186 =>
 (ibin .neq .no t186 (.int .i64 0)).bind fun t187 =>
 (boolK t187 fun b23 => bif b23 then
 (some (.ret (.int .i64 3), H25))
 else
 some (.norm ([] ++ []), H25)))
 else
 some (.norm ([] ++ []), H22)) fun vs22 H26 =>
 (iload false 1 cs3 0).bind fun t189 =>
 (ibin .eql .no t189 (.int .i64 25)).bind fun t190 =>
 (gval false t190).bind fun w14 => grpK (bif w14 then
 ((iload false 1 cs3 0).bind fun t193 =>
 (ibin .eql .no t193 (.int .i64 26)).bind fun t194 =>
 some ([t194], H26))
 else some ([Value.tuple #[]], H26)) fun vs23 H27 =>
 (pickK t190 (.bool true) (nthV 0 vs23)).bind fun t195 =>
 (gval true t195).bind fun w15 => grpK (bif w15 then
 ((iload false 1 cs1 1).bind fun t198 =>
 (ilenS t198).bind fun t199 =>
 (ibin .eql .no t199 (.int .i64 0)).bind fun t200 =>
 some ([t200], H27))
 else some ([Value.tuple #[]], H27)) fun vs24 H28 =>
 (pickK t195 (nthV 0 vs24) (.bool false)).bind fun t201 =>
 (boolK t201 fun b26 => bif b26 then
 (some (.ret (.int .i64 3), H28))
 else
 some (.ret (.int .i64 0), H28)))))))
def F153 (N lim : Nat) (a0 a1 a2 : Value) (H : IHeap) : RV := B153 N (F227 N) (F228 N) (F229 N) lim a0 a1 a2 H
def G153 (N : Nat) : G := w3 (F153 N)
theorem eq153 (N : Nat) (g227 : RF1) (g228 : RF1) (g229 : RF5) (lim : Nat) (a0 a1 a2 : Value) (H : IHeap) : ifun Tryz.prog { fn := envOf [(227, Ideal.w1 g227), (228, Ideal.w1 g228), (229, Ideal.w5 g229)], wr := [229] } { promo := [3, 7, 8, 16], share := false } N (okOf Tryz.prog { promo := [3, 7, 8, 16], share := false } [229]) Tryz.f153 (.seq (.region []) (.seq (.seq (.region [[25], [29], [40]]) (.inl (.seq (.region []) .leaf) .leaf)) (.seq (.region []) (.seq (.region []) (.seq (.region []) (.seq (.seq (.region [[60]]) (.inl (.seq (.region []) .leaf) .leaf)) (.seq (.region []) (.seq (.region [[75], [83]]) (.seq (.region []) (.seq (.seq (.region []) (.join [12, 13] [] [] (.region []) .leaf)) (.seq (.seq (.region [[108]]) (.inl (.seq (.region []) .leaf) .leaf)) (.seq (.region []) (.seq (.seq (.region []) (.block [14] [] [] (.loop [14, 15] [] [] (.seq (.seq (.region []) (.inl .leaf .leaf)) (.seq (.block [14] [] [] (.seq (.region []) (.join [14] [] [] (.seq (.seq (.region [[125]]) (.inl (.seq (.region []) .leaf) .leaf)) (.region [[131], [139], [140]])) (.region [[155]])))) (.region [])))))) (.seq (.seq (.region []) (.inl (.seq (.region []) .leaf) .leaf)) (.seq (.seq (.region [[164]]) (.join [] [] [16] (.seq (.region []) (.seq (.seq (.region []) (.block [] [] [] (.loop [17] [] [] (.seq (.seq (.region []) (.inl .leaf .leaf)) (.seq (.block [] [] [] (.seq (.region []) (.inl (.seq (.region []) .leaf) .leaf))) (.region [])))))) (.seq (.region []) (.inl (.seq (.region []) .leaf) .leaf)))) .leaf)) (.seq (.seq (.region [[194], [200]]) (.inl (.seq (.region []) .leaf) .leaf)) (.seq (.region []) .leaf))))))))))))))))) lim [a0, a1, a2] H = B153 N g227 g228 g229 lim a0 a1 a2 H := by kernel_rfl
theorem sim153 (N : Nat) : SimF Tryz.prog 153 (G153 N) := by
  refine SimF.gen [(227, G227 N), (228, G228 N), (229, G229 N)] [229] { promo := [3, 7, 8, 16], share := false } N (.seq (.region []) (.seq (.seq (.region [[25], [29], [40]]) (.inl (.seq (.region []) .leaf) .leaf)) (.seq (.region []) (.seq (.region []) (.seq (.region []) (.seq (.seq (.region [[60]]) (.inl (.seq (.region []) .leaf) .leaf)) (.seq (.region []) (.seq (.region [[75], [83]]) (.seq (.region []) (.seq (.seq (.region []) (.join [12, 13] [] [] (.region []) .leaf)) (.seq (.seq (.region [[108]]) (.inl (.seq (.region []) .leaf) .leaf)) (.seq (.region []) (.seq (.seq (.region []) (.block [14] [] [] (.loop [14, 15] [] [] (.seq (.seq (.region []) (.inl .leaf .leaf)) (.seq (.block [14] [] [] (.seq (.region []) (.join [14] [] [] (.seq (.seq (.region [[125]]) (.inl (.seq (.region []) .leaf) .leaf)) (.region [[131], [139], [140]])) (.region [[155]])))) (.region [])))))) (.seq (.seq (.region []) (.inl (.seq (.region []) .leaf) .leaf)) (.seq (.seq (.region [[164]]) (.join [] [] [16] (.seq (.region []) (.seq (.seq (.region []) (.block [] [] [] (.loop [17] [] [] (.seq (.seq (.region []) (.inl .leaf .leaf)) (.seq (.block [] [] [] (.seq (.region []) (.inl (.seq (.region []) .leaf) .leaf))) (.region [])))))) (.seq (.region []) (.inl (.seq (.region []) .leaf) .leaf)))) .leaf)) (.seq (.seq (.region [[194], [200]]) (.inl (.seq (.region []) .leaf) .leaf)) (.seq (.region []) .leaf))))))))))))))))) Tryz.func153 (by kernel_rfl) (by kernel_rfl) (env_cons (sim227 N) (env_cons (sim228 N) (env_cons (sim229 N) env_nil))) ?_
  intro lim args H r h
  unfold G153 w3 at h
  split at h
  · exact (eq153 N (F227 N) (F228 N) (F229 N) lim _ _ _ H).trans h
  · simp at h
/-- besom/besomref1.Func -/
def B82 (N : Nat) (g153 : RF3) (lim : Nat) (p0 fn1 : Value) (H : IHeap) : RV :=
 retK ((cellsOf true 3 p0).bind fun cs1 =>
 (ibin .lss .no fn1 (.int .i64 0)).bind fun t12 =>
 (gval false t12).bind fun w1 => grpK (bif w1 then
 ((iload false 1 cs1 2).bind fun t16 =>
 (ilenS t16).bind fun t17 =>
 (ibin .geq .no fn1 t17).bind fun t18 =>
 some ([t18], H))
 else some ([Value.tuple #[]], H)) fun vs1 H1 =>
 (pickK t12 (.bool true) (nthV 0 vs1)).bind fun t19 =>
 (boolK t19 fun b2 => bif b2 then
 (some (.ret (.tuple ⟨[(.int .i64 1), (.int .i64 0)]⟩), H1))
 else
 (iload false 1 cs1 2).bind fun t21 =>
 (iidx 5 t21 fn1).bind fun t23 =>
 (hload true 5 H1 t23).bind fun t24 =>
 (istore true 5 [(.slice none 0 0), (.int .i64 0), (.int .i64 0), (.slice none 0 0), (.slice none 0 0)] 0 t24).bind fun cs2 =>
 (iload false 1 cs2 2).bind fun t26 =>
 (iload false 1 cs2 0).bind fun t28 =>
 (ilenS t28).bind fun t29 =>
 (ibin .lss .no t26 t29).bind fun t30 =>
 (gval false t30).bind fun w2 => grpK (bif w2 then
 ((iload false 1 cs2 2).bind fun t33 =>
 (ibin .gtr .no t33 (.int .i64 16)).bind fun t34 =>
 some ([t34], H1))
 else some ([Value.tuple #[]], H1)) fun vs2 H2 =>
 (pickK t30 (.bool true) (nthV 0 vs2)).bind fun t35 =>
 (gval false t35).bind fun w3 => grpK (bif w3 then
 ((iload false 1 cs2 3).bind fun t38 =>
 (ilenS t38).bind fun t39 =>
 (ibin .gtr .no t39 (.int .i64 8)).bind fun t40 =>
 some ([t40], H2))
 else some ([Value.tuple #[]], H2)) fun vs3 H3 =>
 (pickK t35 (.bool true) (nthV 0 vs3)).bind fun t41 =>
 (gval false t41).bind fun w4 => grpK (bif w4 then
 ((iload false 1 cs2 4).bind fun t44 =>
 (ilenS t44).bind fun t45 =>
 (ibin .lss .no t45 (.int .i64 1)).bind fun t46 =>
 some ([t46], H3))
 else some ([Value.tuple #[]], H3)) fun vs4 H4 =>
 (pickK t41 (.bool true) (nthV 0 vs4)).bind fun t47 =>
 (gval false t47).bind fun w5 => grpK (bif w5 then
 ((iload false 1 cs2 4).bind fun t50 =>
 (ilenS t50).bind fun t51 =>
 (ibin .gtr .no t51 (.int .i64 64)).bind fun t52 =>
 some ([t52], H4))
 else some ([Value.tuple #[]], H4)) fun vs5 H5 =>
 (pickK t47 (.bool true) (nthV 0 vs5)).bind fun t53 =>
 (boolK t53 fun b7 => bif b7 then
 (some (.ret (.tuple ⟨[(.int .i64 1), (.int .i64 0)]⟩), H5))
 else
 catchK 0 (iloop (fun vs6 H6 =>
 (iload false 1 cs2 0).bind fun t56 =>
 (ilenS t56).bind fun t57 =>
 (ibin .lss .no (nthV 0 vs6) t57).bind fun t58 =>
 (boolK t58 fun b8 => bif b8 then
 (catchK 1 ((iload false 1 cs2 0).bind fun t62 =>
 (iidx 1 t62 (nthV 0 vs6)).bind fun t64 =>
 (hload false 1 H6 t64).bind fun t65 =>
 (iload false 1 cs1 1).bind fun t67 =>
 (ilenS t67).bind fun t68 =>
 none) fun vs7 H7 =>
 (ibin .add .no (nthV 0 vs6) (.int .i64 1)).bind fun t60 =>
 some (.norm ([t60] ++ []), H7))
 else
 some (.exit 0 ([] ++ []), H6))) N ([(.int .i64 0)] ++ []) H5) fun vs8 H8 =>
 (iload false 1 cs2 1).bind fun t72 =>
 (ibin .neq .no t72 (.int .i64 0)).bind fun t73 =>
 (gval true t73).bind fun w6 => grpK (bif w6 then
 ((iload false 1 cs2 1).bind fun t76 =>
 (iload false 1 cs1 1).bind fun t78 =>
 (ilenS t78).bind fun t79 =>
 none)
 else some ([Value.tuple #[]], H8)) fun vs9 H9 =>
 (pickK t73 (nthV 0 vs9) (.bool false)).bind fun t82 =>
 (boolK t82 fun b10 => bif b10 then
 (some (.ret (.tuple ⟨[(.int .i64 3), (.int .i64 0)]⟩), H9))
 else
 catchK 2 (iloop (fun vs10 H10 =>
 (iload false 1 cs2 3).bind fun t85 =>
 (ilenS t85).bind fun t86 =>
 (ibin .lss .no (nthV 0 vs10) t86).bind fun t87 =>
 (boolK t87 fun b11 => bif b11 then
 (catchK 3 ((iload false 1 cs2 3).bind fun t91 =>
 (iidx 1 t91 (nthV 0 vs10)).bind fun t93 =>
 (hload false 1 H10 t93).bind fun t94 =>
 (ibin .lss .no t94 (.int .i64 0)).bind fun t95 =>
 (gval false t95).bind fun w7 => grpK (bif w7 then
 ((iload false 1 cs2 3).bind fun t98 =>
 (iidx 1 t98 (nthV 0 vs10)).bind fun t100 =>
 (hload false 1 H10 t100).bind fun t101 =>
 (iload false 1 cs1 1).bind fun t103 =>
 (ilenS t103).bind fun t104 =>
 (ibin .geq .no t101 t104).bind fun t105 =>
 some ([t105], H10))
 else some ([Value.tuple #[]], H10)) fun vs11 H11 =>
 (pickK t95 (.bool true) (nthV 0 vs11)).bind fun t106 =>
 (boolK t106 fun b13 => bif b13 then
 (some (.ret (.tuple ⟨[(.int .i64 4), (.int .i64 0)]⟩), H11))
 else
 some (.norm ([] ++ []), H11))) fun vs12 H12 =>
 (ibin .add .no (nthV 0 vs10) (.int .i64 1)).bind fun t89 =>
 some (.norm ([t89] ++ []), H12))
 else
 some (.exit 2 ([] ++ []), H10))) N ([(.int .i64 0)] ++ []) H9) fun vs13 H13 =>
 catchK 4 (iloop (fun vs14 H14 =>
 (iload false 1 cs2 4).bind fun t109 =>
 (ilenS t109).bind fun t110 =>
 (ibin .lss .no (nthV 0 vs14) t110).bind fun t111 =>
 (boolK t111 fun b14 => bif b14 then
 (catchK 5 ((iload true 3 cs1 0).bind fun t114 =>
 callK (g153 lim t114 fn1 (nthV 0 vs14) H14) fun t117 H15 =>
 (ibin .neq .no t117 (.int .i64 0)).bind fun t119 =>
 (boolK t119 fun b15 => bif b15 then
 (some (.ret (.tuple ⟨[t117, (nthV 0 vs14)]⟩), H15))
 else
 some (.norm ([] ++ []), H15))) fun vs15 H16 =>
 (ibin .add .no (nthV 0 vs14) (.int .i64 1)).bind fun t113 =>
 some (.norm ([t113] ++ []), H16))
 else
 some (.exit 4 ([] ++ []), H14))) N ([(.int .i64 0)] ++ []) H13) fun vs16 H17 =>
 some (.ret (.tuple ⟨[(.int .i64 0), (.int .i64 0)]⟩), H17)))))
def F82 (N lim : Nat) (a0 a1 : Value) (H : IHeap) : RV := B82 N (F153 N) lim a0 a1 H
def G82 (N : Nat) : G := w2 (F82 N)
theorem eq82 (N : Nat) (g153 : RF3) (lim : Nat) (a0 a1 : Value) (H : IHeap) : ifun Tryz.prog { fn := envOf [(153, Ideal.w3 g153)], wr := [152] } { promo := [2, 6], share := false } N (okOf Tryz.prog { promo := [2, 6], share := false } [152]) Tryz.f82 (.seq (.region []) (.seq (.seq (.region [[18]]) (.inl (.seq (.region []) .leaf) .leaf)) (.seq (.region []) (.seq (.seq (.region [[34], [40], [46], [52]]) (.inl (.seq (.region []) .leaf) .leaf)) (.seq (.seq (.region []) (.block [] [] [] (.loop [7] [] [] (.seq (.seq (.region []) (.inl .leaf .leaf)) (.seq (.block [] [] [] (.seq (.region []) (.inl (.seq (.region []) .leaf) .leaf))) (.region [])))))) (.seq (.seq (.region [[81]]) (.inl (.seq (.region []) .leaf) .leaf)) (.seq (.seq (.region []) (.block [] [] [] (.loop [8] [] [] (.seq (.seq (.region []) (.inl .leaf .leaf)) (.seq (.block [] [] [] (.seq (.region [[105]]) (.inl (.seq (.region []) .leaf) .leaf))) (.region [])))))) (.seq (.seq (.region []) (.block [] [] [] (.loop [9] [] [] (.seq (.seq (.region []) (.inl .leaf .leaf)) (.seq (.block [] [] [] (.seq (.region []) (.seq (.region []) (.inl (.seq (.region []) .leaf) .leaf)))) (.region [])))))) (.seq (.region []) .leaf))))))))) lim [a0, a1] H = B82 N g153 lim a0 a1 H := by kernel_rfl
theorem sim82 (N : Nat) : SimF Tryz.prog 82 (G82 N) := by
  refine SimF.gen [(153, G153 N)] [152] { promo := [2, 6], share := false } N (.seq (.region []) (.seq (.seq (.region [[18]]) (.inl (.seq (.region []) .leaf) .leaf)) (.seq (.region []) (.seq (.seq (.region [[34], [40], [46], [52]]) (.inl (.seq (.region []) .leaf) .leaf)) (.seq (.seq (.region []) (.block [] [] [] (.loop [7] [] [] (.seq (.seq (.region []) (.inl .leaf .leaf)) (.seq (.block [] [] [] (.seq (.region []) (.inl (.seq (.region []) .leaf) .leaf))) (.region [])))))) (.seq (.seq (.region [[81]]) (.inl (.seq (.region []) .leaf) .leaf)) (.seq (.seq (.region []) (.block [] [] [] (.loop [8] [] [] (.seq (.seq (.region []) (.inl .leaf .leaf)) (.seq (.block [] [] [] (.seq (.region [[105]]) (.inl (.seq (.region []) .leaf) .leaf))) (.region [])))))) (.seq (.seq (.region []) (.block [] [] [] (.loop [9] [] [] (.seq (.seq (.region []) (.inl .leaf .leaf)) (.seq (.block [] [] [] (.seq (.region []) (.seq (.region []) (.inl (.seq (.region []) .leaf) .leaf)))) (.region [])))))) (.seq (.region []) .leaf))))))))) Tryz.func82 (by kernel_rfl) (by kernel_rfl) (env_cons (sim153 N) env_nil) ?_
  intro lim args H r h
  unfold G82 w2 at h
  split at h
  · exact (eq82 N (F153 N) lim _ _ H).trans h
  · simp at h
end Go.Ideal
