/- This text proves no statement of the seat: it says what functions of the program do on the ideal machine, part 6. By program (emitall.py). -/
import Derived.Test.YtpiddcbddilamaaGreatDoorFf
namespace Go.Ideal
open Go.Proofs
set_option maxRecDepth 100000
set_option linter.unusedVariables false
/-- besom/besomlaw24.Right -/
def B13 (N : Nat) (lim : Nat) (c0 : Value) (H : IHeap) : RV :=
 retK ((cellsOf true 5 c0).bind fun cs1 =>
 (iload false 1 cs1 0).bind fun t4 =>
 (ibin .geq .no t4 (.int .i64 1)).bind fun t5 =>
 (gval true t5).bind fun w1 => grpK (bif w1 then
 ((iload false 1 cs1 0).bind fun t8 =>
 (ibin .leq .no t8 (.int .i64 64)).bind fun t9 =>
 some ([t9], H))
 else some ([Value.tuple #[]], H)) fun vs1 H1 =>
 (pickK t5 (nthV 0 vs1) (.bool false)).bind fun t10 =>
 (gval true t10).bind fun w2 => grpK (bif w2 then
 ((iload false 1 cs1 2).bind fun t13 =>
 (ibin .geq .no t13 (.int .i64 1)).bind fun t14 =>
 some ([t14], H1))
 else some ([Value.tuple #[]], H1)) fun vs2 H2 =>
 (pickK t10 (nthV 0 vs2) (.bool false)).bind fun t15 =>
 (gval true t15).bind fun w3 => grpK (bif w3 then
 ((iload false 1 cs1 2).bind fun t18 =>
 (ibin .leq .no t18 (.int .i64 4096)).bind fun t19 =>
 some ([t19], H2))
 else some ([Value.tuple #[]], H2)) fun vs3 H3 =>
 (pickK t15 (nthV 0 vs3) (.bool false)).bind fun t20 =>
 (gval true t20).bind fun w4 => grpK (bif w4 then
 ((iload false 1 cs1 1).bind fun t23 =>
 (ibin .geq .no t23 (.int .i64 1)).bind fun t24 =>
 some ([t24], H3))
 else some ([Value.tuple #[]], H3)) fun vs4 H4 =>
 (pickK t20 (nthV 0 vs4) (.bool false)).bind fun t25 =>
 (gval true t25).bind fun w5 => grpK (bif w5 then
 ((iload false 1 cs1 1).bind fun t28 =>
 (iload false 1 cs1 2).bind fun t30 =>
 (ibin .leq .no t28 t30).bind fun t31 =>
 some ([t31], H4))
 else some ([Value.tuple #[]], H4)) fun vs5 H5 =>
 (pickK t25 (nthV 0 vs5) (.bool false)).bind fun t32 =>
 (gval true t32).bind fun w6 => grpK (bif w6 then
 ((iload false 1 cs1 3).bind fun t35 =>
 (ibin .geq .no t35 (.int .i64 1)).bind fun t36 =>
 some ([t36], H5))
 else some ([Value.tuple #[]], H5)) fun vs6 H6 =>
 (pickK t32 (nthV 0 vs6) (.bool false)).bind fun t37 =>
 (gval true t37).bind fun w7 => grpK (bif w7 then
 ((iload false 1 cs1 3).bind fun t40 =>
 (ibin .leq .no t40 (.int .i64 1000000)).bind fun t41 =>
 some ([t41], H6))
 else some ([Value.tuple #[]], H6)) fun vs7 H7 =>
 (pickK t37 (nthV 0 vs7) (.bool false)).bind fun t42 =>
 (gval true t42).bind fun w8 => grpK (bif w8 then
 ((iload false 1 cs1 4).bind fun t45 =>
 (ibin .geq .no t45 (.int .i64 1)).bind fun t46 =>
 some ([t46], H7))
 else some ([Value.tuple #[]], H7)) fun vs8 H8 =>
 (pickK t42 (nthV 0 vs8) (.bool false)).bind fun t47 =>
 (gval true t47).bind fun w9 => grpK (bif w9 then
 ((iload false 1 cs1 4).bind fun t50 =>
 (ibin .leq .no t50 (.int .i64 1000)).bind fun t51 =>
 some ([t51], H8))
 else some ([Value.tuple #[]], H8)) fun vs9 H9 =>
 (pickK t47 (nthV 0 vs9) (.bool false)).bind fun t52 =>
 some (.ret t52, H9))
def F13 (N lim : Nat) (a0 : Value) (H : IHeap) : RV := B13 N lim a0 H
def G13 (N : Nat) : G := w1 (F13 N)
theorem eq13 (N : Nat) (lim : Nat) (a0 : Value) (H : IHeap) : ifun Tryz.prog { fn := envOf [], wr := [] } { promo := [1], share := false } N (okOf Tryz.prog { promo := [1], share := false } []) Tryz.f13 (.seq (.region []) (.seq (.region [[9], [14], [19], [24], [31], [36], [41], [46], [51]]) .leaf)) lim [a0] H = B13 N lim a0 H := by kernel_rfl
theorem sim13 (N : Nat) : SimF Tryz.prog 13 (G13 N) := by
  refine SimF.gen [] [] { promo := [1], share := false } N (.seq (.region []) (.seq (.region [[9], [14], [19], [24], [31], [36], [41], [46], [51]]) .leaf)) Tryz.func13 (by kernel_rfl) (by kernel_rfl) env_nil ?_
  intro lim args H r h
  unfold G13 w1 at h
  split at h
  · exact (eq13 N lim _ H).trans h
  · simp at h
/-- besom/besomref1.Field -/
def B76 (N : Nat) (lim : Nat) (kind0 shapes1 : Value) (H : IHeap) : RV :=
 retK ((ibin .geq .no shapes1 (.int .i64 0)).bind fun t6 =>
 (gval true t6).bind fun w1 => grpK (bif w1 then
 ((ibin .leq .no shapes1 (.int .i64 16)).bind fun t9 =>
 some ([t9], H))
 else some ([Value.tuple #[]], H)) fun vs1 H1 =>
 (pickK t6 (nthV 0 vs1) (.bool false)).bind fun t10 =>
 (gval true t10).bind fun w2 => grpK (bif w2 then
 ((ibin .eql .no kind0 (.int .i64 1)).bind fun t13 =>
 some ([t13], H1))
 else some ([Value.tuple #[]], H1)) fun vs2 H2 =>
 (gval false (nthV 0 vs2)).bind fun w3 => grpK (bif w3 then
 ((ibin .geq .no kind0 (.int .i64 16)).bind fun t16 =>
 some ([t16], H2))
 else some ([Value.tuple #[]], H2)) fun vs3 H3 =>
 (gval true (nthV 0 vs3)).bind fun w4 => grpK (bif w4 then
 ((ibin .add .no (.int .i64 16) shapes1).bind fun t20 =>
 (ibin .lss .no kind0 t20).bind fun t21 =>
 some ([t21], H3))
 else some ([Value.tuple #[]], H3)) fun vs4 H4 =>
 (gval false (nthV 0 vs2)).bind fun w5 => grpK (bif w5 then
 ((pickK (nthV 0 vs3) (nthV 0 vs4) (.bool false)).bind fun t22 =>
 some ([t22], H4))
 else some ([Value.tuple #[]], H4)) fun vs5 H5 =>
 (gval true t10).bind fun w6 => grpK (bif w6 then
 ((pickK (nthV 0 vs2) (.bool true) (nthV 0 vs5)).bind fun t23 =>
 some ([t23], H5))
 else some ([Value.tuple #[]], H5)) fun vs6 H6 =>
 (pickK t10 (nthV 0 vs6) (.bool false)).bind fun t24 =>
 some (.ret t24, H6))
def F76 (N lim : Nat) (a0 a1 : Value) (H : IHeap) : RV := B76 N lim a0 a1 H
def G76 (N : Nat) : G := w2 (F76 N)
theorem eq76 (N : Nat) (lim : Nat) (a0 a1 : Value) (H : IHeap) : ifun Tryz.prog { fn := envOf [], wr := [] } { promo := [], share := false } N (okOf Tryz.prog { promo := [], share := false } []) Tryz.f76 (.seq (.region []) (.seq (.region [[9], [14], [17], [21], [22], [23]]) .leaf)) lim [a0, a1] H = B76 N lim a0 a1 H := by kernel_rfl
theorem sim76 (N : Nat) : SimF Tryz.prog 76 (G76 N) := by
  refine SimF.gen [] [] { promo := [], share := false } N (.seq (.region []) (.seq (.region [[9], [14], [17], [21], [22], [23]]) .leaf)) Tryz.func76 (by kernel_rfl) (by kernel_rfl) env_nil ?_
  intro lim args H r h
  unfold G76 w2 at h
  split at h
  · exact (eq76 N lim _ _ H).trans h
  · simp at h
/-- besom/besomref1.Shapes -/
def B75 (N : Nat) (g76 : RF2) (lim : Nat) (l0 : Value) (H : IHeap) : RV :=
 retK ((ilenS l0).bind fun t6 =>
 (ibin .gtr .no t6 (.int .i64 16)).bind fun t7 =>
 (boolK t7 fun b1 => bif b1 then
 (some (.ret (.int .i64 1), H))
 else
 catchK 0 (iloop (fun vs1 H1 =>
 (ilenS l0).bind fun t10 =>
 (ibin .lss .no (nthV 0 vs1) t10).bind fun t11 =>
 (boolK t11 fun b2 => bif b2 then
 (catchK 1 ((iidx 1 l0 (nthV 0 vs1)).bind fun t16 =>
 (paddr 0 t16).bind fun t17 =>
 (hload false 1 H1 t17).bind fun t18 =>
 (ilenS t18).bind fun t19 =>
 (ibin .lss .no t19 (.int .i64 1)).bind fun t20 =>
 (gval false t20).bind fun w1 => grpK (bif w1 then
 ((iidx 1 l0 (nthV 0 vs1)).bind fun t24 =>
 (paddr 0 t24).bind fun t25 =>
 (hload false 1 H1 t25).bind fun t26 =>
 (ilenS t26).bind fun t27 =>
 (ibin .gtr .no t27 (.int .i64 16)).bind fun t28 =>
 some ([t28], H1))
 else some ([Value.tuple #[]], H1)) fun vs2 H2 =>
 (pickK t20 (.bool true) (nthV 0 vs2)).bind fun t29 =>
 (boolK t29 fun b4 => bif b4 then
 (some (.ret (.int .i64 1), H2))
 else
 catchK 2 (iloop (fun vs3 H3 =>
 (iidx 1 l0 (nthV 0 vs1)).bind fun t33 =>
 (paddr 0 t33).bind fun t34 =>
 (hload false 1 H3 t34).bind fun t35 =>
 (ilenS t35).bind fun t36 =>
 (ibin .lss .no (nthV 0 vs3) t36).bind fun t37 =>
 (boolK t37 fun b5 => bif b5 then
 (catchK 3 ((iidx 1 l0 (nthV 0 vs1)).bind fun t42 =>
 (paddr 0 t42).bind fun t43 =>
 (hload false 1 H3 t43).bind fun t44 =>
 (iidx 1 t44 (nthV 0 vs3)).bind fun t46 =>
 (hload false 1 H3 t46).bind fun t47 =>
 (ilenS l0).bind fun t49 =>
 callK (g76 lim t47 t49 H3) fun t50 H4 =>
 (iun .not t50).bind fun t51 =>
 (boolK t51 fun b6 => bif b6 then
 (some (.ret (.int .i64 3), H4))
 else
 some (.norm ([] ++ []), H4))) fun vs4 H5 =>
 (ibin .add .no (nthV 0 vs3) (.int .i64 1)).bind fun t39 =>
 some (.norm ([t39] ++ []), H5))
 else
 some (.exit 2 ([] ++ []), H3))) N ([(.int .i64 0)] ++ []) H2) fun vs5 H6 =>
 some (.norm ([] ++ []), H6))) fun vs6 H7 =>
 (ibin .add .no (nthV 0 vs1) (.int .i64 1)).bind fun t13 =>
 some (.norm ([t13] ++ []), H7))
 else
 some (.exit 0 ([] ++ []), H1))) N ([(.int .i64 0)] ++ []) H) fun vs7 H8 =>
 some (.ret (.int .i64 0), H8)))
def F75 (N lim : Nat) (a0 : Value) (H : IHeap) : RV := B75 N (F76 N) lim a0 H
def G75 (N : Nat) : G := w1 (F75 N)
theorem eq75 (N : Nat) (g76 : RF2) (lim : Nat) (a0 : Value) (H : IHeap) : ifun Tryz.prog { fn := envOf [(76, Ideal.w2 g76)], wr := [] } { promo := [], share := false } N (okOf Tryz.prog { promo := [], share := false } []) Tryz.f75 (.seq (.region []) (.seq (.seq (.region []) (.inl (.seq (.region []) .leaf) .leaf)) (.seq (.seq (.region []) (.block [] [] [] (.loop [3] [] [] (.seq (.seq (.region []) (.inl .leaf .leaf)) (.seq (.block [] [] [] (.seq (.seq (.region [[28]]) (.inl (.seq (.region []) .leaf) .leaf)) (.seq (.region []) (.block [] [] [] (.loop [4] [] [] (.seq (.seq (.region []) (.inl .leaf .leaf)) (.seq (.block [] [] [] (.seq (.region []) (.inl (.seq (.region []) .leaf) .leaf))) (.region [])))))))) (.region [])))))) (.seq (.region []) .leaf)))) lim [a0] H = B75 N g76 lim a0 H := by kernel_rfl
theorem sim75 (N : Nat) : SimF Tryz.prog 75 (G75 N) := by
  refine SimF.gen [(76, G76 N)] [] { promo := [], share := false } N (.seq (.region []) (.seq (.seq (.region []) (.inl (.seq (.region []) .leaf) .leaf)) (.seq (.seq (.region []) (.block [] [] [] (.loop [3] [] [] (.seq (.seq (.region []) (.inl .leaf .leaf)) (.seq (.block [] [] [] (.seq (.seq (.region [[28]]) (.inl (.seq (.region []) .leaf) .leaf)) (.seq (.region []) (.block [] [] [] (.loop [4] [] [] (.seq (.seq (.region []) (.inl .leaf .leaf)) (.seq (.block [] [] [] (.seq (.region []) (.inl (.seq (.region []) .leaf) .leaf))) (.region [])))))))) (.region [])))))) (.seq (.region []) .leaf)))) Tryz.func75 (by kernel_rfl) (by kernel_rfl) (env_cons (sim76 N) env_nil) ?_
  intro lim args H r h
  unfold G75 w1 at h
  split at h
  · exact (eq75 N (F76 N) lim _ H).trans h
  · simp at h
/-- besom/besomref1.operands -/
def B216 (N : Nat) (lim : Nat) (op0 : Value) (H : IHeap) : RV :=
 retK (catchK 0 ((ibin .eql .no op0 (.int .i64 0)).bind fun t5 =>
 joinK (boolK t5 fun b1 => bif b1 then
 (some (.norm ([t5] ++ []), H))
 else
 (ibin .eql .no op0 (.int .i64 27)).bind fun t6 =>
 joinK (boolK t6 fun b2 => bif b2 then
 (some (.norm ([t6] ++ []), H))
 else
 (ibin .eql .no op0 (.int .i64 28)).bind fun t7 =>
 some (.norm ([t7] ++ []), H)) fun vs1 H1 =>
 some (.norm ([(nthV 0 vs1)] ++ []), H1)) fun vs2 H2 =>
 (boolK (nthV 0 vs2) fun b3 => bif b3 then
 (some (.ret (.string ⟨#[45, 45, 45]⟩), H2))
 else
 (ibin .eql .no op0 (.int .i64 1)).bind fun t9 =>
 (boolK t9 fun b4 => bif b4 then
 (some (.ret (.string ⟨#[115, 110, 45]⟩), H2))
 else
 (ibin .eql .no op0 (.int .i64 2)).bind fun t11 =>
 joinK (boolK t11 fun b5 => bif b5 then
 (some (.norm ([t11] ++ []), H2))
 else
 (ibin .eql .no op0 (.int .i64 12)).bind fun t12 =>
 some (.norm ([t12] ++ []), H2)) fun vs3 H3 =>
 (boolK (nthV 0 vs3) fun b6 => bif b6 then
 (some (.ret (.string ⟨#[115, 115, 45]⟩), H3))
 else
 (ibin .eql .no op0 (.int .i64 3)).bind fun t14 =>
 joinK (boolK t14 fun b7 => bif b7 then
 (some (.norm ([t14] ++ []), H3))
 else
 (ibin .eql .no op0 (.int .i64 4)).bind fun t15 =>
 joinK (boolK t15 fun b8 => bif b8 then
 (some (.norm ([t15] ++ []), H3))
 else
 (ibin .eql .no op0 (.int .i64 5)).bind fun t16 =>
 joinK (boolK t16 fun b9 => bif b9 then
 (some (.norm ([t16] ++ []), H3))
 else
 (ibin .eql .no op0 (.int .i64 6)).bind fun t17 =>
 joinK (boolK t17 fun b10 => bif b10 then
 (some (.norm ([t17] ++ []), H3))
 else
 (ibin .eql .no op0 (.int .i64 7)).bind fun t18 =>
 joinK (boolK t18 fun b11 => bif b11 then
 (some (.norm ([t18] ++ []), H3))
 else
 (ibin .eql .no op0 (.int .i64 8)).bind fun t19 =>
 some (.norm ([t19] ++ []), H3)) fun vs4 H4 =>
 some (.norm ([(nthV 0 vs4)] ++ []), H4)) fun vs5 H5 =>
 some (.norm ([(nthV 0 vs5)] ++ []), H5)) fun vs6 H6 =>
 some (.norm ([(nthV 0 vs6)] ++ []), H6)) fun vs7 H7 =>
 some (.norm ([(nthV 0 vs7)] ++ []), H7)) fun vs8 H8 =>
 (boolK (nthV 0 vs8) fun b12 => bif b12 then
 (some (.ret (.string ⟨#[115, 115, 115]⟩), H8))
 else
 (ibin .eql .no op0 (.int .i64 9)).bind fun t21 =>
 (boolK t21 fun b13 => bif b13 then
 (some (.ret (.string ⟨#[45, 116, 45]⟩), H8))
 else
 (ibin .eql .no op0 (.int .i64 10)).bind fun t23 =>
 (boolK t23 fun b14 => bif b14 then
 (some (.ret (.string ⟨#[115, 116, 45]⟩), H8))
 else
 (ibin .eql .no op0 (.int .i64 11)).bind fun t25 =>
 joinK (boolK t25 fun b15 => bif b15 then
 (some (.norm ([t25] ++ []), H8))
 else
 (ibin .eql .no op0 (.int .i64 13)).bind fun t26 =>
 some (.norm ([t26] ++ []), H8)) fun vs9 H9 =>
 (boolK (nthV 0 vs9) fun b16 => bif b16 then
 (some (.ret (.string ⟨#[115, 112, 45]⟩), H9))
 else
 (ibin .eql .no op0 (.int .i64 14)).bind fun t28 =>
 joinK (boolK t28 fun b17 => bif b17 then
 (some (.norm ([t28] ++ []), H9))
 else
 (ibin .eql .no op0 (.int .i64 19)).bind fun t29 =>
 some (.norm ([t29] ++ []), H9)) fun vs10 H10 =>
 (boolK (nthV 0 vs10) fun b18 => bif b18 then
 (some (.ret (.string ⟨#[115, 115, 105]⟩), H10))
 else
 (ibin .eql .no op0 (.int .i64 15)).bind fun t31 =>
 joinK (boolK t31 fun b19 => bif b19 then
 (some (.norm ([t31] ++ []), H10))
 else
 (ibin .eql .no op0 (.int .i64 20)).bind fun t32 =>
 some (.norm ([t32] ++ []), H10)) fun vs11 H11 =>
 (boolK (nthV 0 vs11) fun b20 => bif b20 then
 (some (.ret (.string ⟨#[115, 105, 115]⟩), H11))
 else
 (ibin .eql .no op0 (.int .i64 16)).bind fun t34 =>
 (boolK t34 fun b21 => bif b21 then
 (some (.ret (.string ⟨#[115, 103, 45]⟩), H11))
 else
 (ibin .eql .no op0 (.int .i64 17)).bind fun t36 =>
 (boolK t36 fun b22 => bif b22 then
 (some (.ret (.string ⟨#[103, 115, 45]⟩), H11))
 else
 (ibin .eql .no op0 (.int .i64 18)).bind fun t38 =>
 (boolK t38 fun b23 => bif b23 then
 (some (.ret (.string ⟨#[115, 111, 45]⟩), H11))
 else
 (ibin .eql .no op0 (.int .i64 21)).bind fun t40 =>
 (boolK t40 fun b24 => bif b24 then
 (some (.ret (.string ⟨#[114, 102, 97]⟩), H11))
 else
 (ibin .eql .no op0 (.int .i64 22)).bind fun t42 =>
 (boolK t42 fun b25 => bif b25 then
 (some (.ret (.string ⟨#[114, 45, 45]⟩), H11))
 else
 (ibin .eql .no op0 (.int .i64 23)).bind fun t44 =>
 joinK (boolK t44 fun b26 => bif b26 then
 (some (.norm ([t44] ++ []), H11))
 else
 (ibin .eql .no op0 (.int .i64 24)).bind fun t45 =>
 some (.norm ([t45] ++ []), H11)) fun vs12 H12 =>
 (boolK (nthV 0 vs12) fun b27 => bif b27 then
 (some (.ret (.string ⟨#[45, 102, 97]⟩), H12))
 else
 (ibin .eql .no op0 (.int .i64 25)).bind fun t47 =>
 joinK (boolK t47 fun b28 => bif b28 then
 (some (.norm ([t47] ++ []), H12))
 else
 (ibin .eql .no op0 (.int .i64 26)).bind fun t48 =>
 some (.norm ([t48] ++ []), H12)) fun vs13 H13 =>
 (boolK (nthV 0 vs13) fun b29 => bif b29 then
 (some (.ret (.string ⟨#[115, 115, 45]⟩), H13))
 else
 (ibin .eql .no op0 (.int .i64 29)).bind fun t50 =>
 (boolK t50 fun b30 => bif b30 then
 (some (.ret (.string ⟨#[115, 45, 45]⟩), H13))
 else
 some (.norm ([] ++ []), H13))))))))))))))))))) fun vs14 H14 =>
 some (.ret (.string ⟨#[]⟩), H14))
def F216 (N lim : Nat) (a0 : Value) (H : IHeap) : RV := B216 N lim a0 H
def G216 (N : Nat) : G := w1 (F216 N)
theorem eq216 (N : Nat) (lim : Nat) (a0 : Value) (H : IHeap) : ifun Tryz.prog { fn := envOf [], wr := [] } { promo := [], share := false } N (okOf Tryz.prog { promo := [], share := false } []) Tryz.f216 (.seq (.region []) (.seq (.seq (.region []) (.block [] [] [] (.seq (.seq (.region []) (.join [4] [] [] .leaf (.seq (.region []) (.join [4] [] [] .leaf (.region []))))) (.inl (.seq (.region []) .leaf) (.seq (.region []) (.inl (.seq (.region []) .leaf) (.seq (.seq (.region []) (.join [10] [] [] .leaf (.region []))) (.inl (.seq (.region []) .leaf) (.seq (.seq (.region []) (.join [13] [] [] .leaf (.seq (.region []) (.join [13] [] [] .leaf (.seq (.region []) (.join [13] [] [] .leaf (.seq (.region []) (.join [13] [] [] .leaf (.seq (.region []) (.join [13] [] [] .leaf (.region []))))))))))) (.inl (.seq (.region []) .leaf) (.seq (.region []) (.inl (.seq (.region []) .leaf) (.seq (.region []) (.inl (.seq (.region []) .leaf) (.seq (.seq (.region []) (.join [24] [] [] .leaf (.region []))) (.inl (.seq (.region []) .leaf) (.seq (.seq (.region []) (.join [27] [] [] .leaf (.region []))) (.inl (.seq (.region []) .leaf) (.seq (.seq (.region []) (.join [30] [] [] .leaf (.region []))) (.inl (.seq (.region []) .leaf) (.seq (.region []) (.inl (.seq (.region []) .leaf) (.seq (.region []) (.inl (.seq (.region []) .leaf) (.seq (.region []) (.inl (.seq (.region []) .leaf) (.seq (.region []) (.inl (.seq (.region []) .leaf) (.seq (.region []) (.inl (.seq (.region []) .leaf) (.seq (.seq (.region []) (.join [43] [] [] .leaf (.region []))) (.inl (.seq (.region []) .leaf) (.seq (.seq (.region []) (.join [46] [] [] .leaf (.region []))) (.inl (.seq (.region []) .leaf) (.seq (.region []) (.inl (.seq (.region []) .leaf) .leaf)))))))))))))))))))))))))))))))))))) (.seq (.region []) .leaf))) lim [a0] H = B216 N lim a0 H := by kernel_rfl
theorem sim216 (N : Nat) : SimF Tryz.prog 216 (G216 N) := by
  refine SimF.gen [] [] { promo := [], share := false } N (.seq (.region []) (.seq (.seq (.region []) (.block [] [] [] (.seq (.seq (.region []) (.join [4] [] [] .leaf (.seq (.region []) (.join [4] [] [] .leaf (.region []))))) (.inl (.seq (.region []) .leaf) (.seq (.region []) (.inl (.seq (.region []) .leaf) (.seq (.seq (.region []) (.join [10] [] [] .leaf (.region []))) (.inl (.seq (.region []) .leaf) (.seq (.seq (.region []) (.join [13] [] [] .leaf (.seq (.region []) (.join [13] [] [] .leaf (.seq (.region []) (.join [13] [] [] .leaf (.seq (.region []) (.join [13] [] [] .leaf (.seq (.region []) (.join [13] [] [] .leaf (.region []))))))))))) (.inl (.seq (.region []) .leaf) (.seq (.region []) (.inl (.seq (.region []) .leaf) (.seq (.region []) (.inl (.seq (.region []) .leaf) (.seq (.seq (.region []) (.join [24] [] [] .leaf (.region []))) (.inl (.seq (.region []) .leaf) (.seq (.seq (.region []) (.join [27] [] [] .leaf (.region []))) (.inl (.seq (.region []) .leaf) (.seq (.seq (.region []) (.join [30] [] [] .leaf (.region []))) (.inl (.seq (.region []) .leaf) (.seq (.region []) (.inl (.seq (.region []) .leaf) (.seq (.region []) (.inl (.seq (.region []) .leaf) (.seq (.region []) (.inl (.seq (.region []) .leaf) (.seq (.region []) (.inl (.seq (.region []) .leaf) (.seq (.region []) (.inl (.seq (.region []) .leaf) (.seq (.seq (.region []) (.join [43] [] [] .leaf (.region []))) (.inl (.seq (.region []) .leaf) (.seq (.seq (.region []) (.join [46] [] [] .leaf (.region []))) (.inl (.seq (.region []) .leaf) (.seq (.region []) (.inl (.seq (.region []) .leaf) .leaf)))))))))))))))))))))))))))))))))))) (.seq (.region []) .leaf))) Tryz.func216 (by kernel_rfl) (by kernel_rfl) env_nil ?_
  intro lim args H r h
  unfold G216 w1 at h
  split at h
  · exact (eq216 N lim _ H).trans h
  · simp at h
/-- besom/besomref1.Uses -/
def B277 (N : Nat) (g216 : RF1) (lim : Nat) (op0 : Value) (H : IHeap) : RV :=
 retK (callK (g216 lim op0 H) fun t7 H1 =>
 (ibin .eql .no t7 (.string ⟨#[]⟩)).bind fun t9 =>
 (boolK t9 fun b1 => bif b1 then
 (some (.ret (.tuple ⟨[(.bool false), (.bool false), (.bool false)]⟩), H1))
 else
 (iindexS t7 (.int .i64 0)).bind fun t11 =>
 (ibin .neq .no t11 (.int .u8 45)).bind fun t12 =>
 (iindexS t7 (.int .i64 1)).bind fun t14 =>
 (ibin .neq .no t14 (.int .u8 45)).bind fun t15 =>
 (iindexS t7 (.int .i64 2)).bind fun t17 =>
 (ibin .neq .no t17 (.int .u8 45)).bind fun t18 =>
 some (.ret (.tuple ⟨[t12, t15, t18]⟩), H1)))
def F277 (N lim : Nat) (a0 : Value) (H : IHeap) : RV := B277 N (F216 N) lim a0 H
def G277 (N : Nat) : G := w1 (F277 N)
theorem eq277 (N : Nat) (g216 : RF1) (lim : Nat) (a0 : Value) (H : IHeap) : ifun Tryz.prog { fn := envOf [(216, Ideal.w1 g216)], wr := [] } { promo := [], share := false } N (okOf Tryz.prog { promo := [], share := false } []) Tryz.f277 (.seq (.region []) (.seq (.region []) (.seq (.seq (.region []) (.inl (.seq (.region []) .leaf) .leaf)) (.seq (.region []) .leaf)))) lim [a0] H = B277 N g216 lim a0 H := by kernel_rfl
theorem sim277 (N : Nat) : SimF Tryz.prog 277 (G277 N) := by
  refine SimF.gen [(216, G216 N)] [] { promo := [], share := false } N (.seq (.region []) (.seq (.region []) (.seq (.seq (.region []) (.inl (.seq (.region []) .leaf) .leaf)) (.seq (.region []) .leaf)))) Tryz.func277 (by kernel_rfl) (by kernel_rfl) (env_cons (sim216 N) env_nil) ?_
  intro lim args H r h
  unfold G277 w1 at h
  split at h
  · exact (eq277 N (F216 N) lim _ H).trans h
  · simp at h
/-- besom/besomref1.unused -/
def B217 (N : Nat) (g277 : RF1) (lim : Nat) (i0 : Value) (H : IHeap) : RV :=
 retK ((cellsOf true 4 i0).bind fun cs1 =>
 (iload false 1 cs1 0).bind fun t8 =>
 callK (g277 lim t8 H) fun t9 H1 =>
 (iextract 0 t9).bind fun t10 =>
 (iextract 1 t9).bind fun t11 =>
 (iextract 2 t9).bind fun t12 =>
 (gval false t10).bind fun w1 => grpK (bif w1 then
 ((iload false 1 cs1 1).bind fun t16 =>
 (ibin .eql .no t16 (.int .i64 0)).bind fun t17 =>
 some ([t17], H1))
 else some ([Value.tuple #[]], H1)) fun vs1 H2 =>
 (pickK t10 (.bool true) (nthV 0 vs1)).bind fun t18 =>
 (gval true t18).bind fun w2 => grpK (bif w2 then
 (some ([t11], H2))
 else some ([Value.tuple #[]], H2)) fun vs2 H3 =>
 (gval false (nthV 0 vs2)).bind fun w3 => grpK (bif w3 then
 ((iload false 1 cs1 2).bind fun t23 =>
 (ibin .eql .no t23 (.int .i64 0)).bind fun t24 =>
 some ([t24], H3))
 else some ([Value.tuple #[]], H3)) fun vs3 H4 =>
 (gval true t18).bind fun w4 => grpK (bif w4 then
 ((pickK (nthV 0 vs2) (.bool true) (nthV 0 vs3)).bind fun t25 =>
 some ([t25], H4))
 else some ([Value.tuple #[]], H4)) fun vs4 H5 =>
 (pickK t18 (nthV 0 vs4) (.bool false)).bind fun t26 =>
 (gval true t26).bind fun w5 => grpK (bif w5 then
 (some ([t12], H5))
 else some ([Value.tuple #[]], H5)) fun vs5 H6 =>
 (gval false (nthV 0 vs5)).bind fun w6 => grpK (bif w6 then
 ((iload false 1 cs1 3).bind fun t31 =>
 (ibin .eql .no t31 (.int .i64 0)).bind fun t32 =>
 some ([t32], H6))
 else some ([Value.tuple #[]], H6)) fun vs6 H7 =>
 (gval true t26).bind fun w7 => grpK (bif w7 then
 ((pickK (nthV 0 vs5) (.bool true) (nthV 0 vs6)).bind fun t33 =>
 some ([t33], H7))
 else some ([Value.tuple #[]], H7)) fun vs7 H8 =>
 (pickK t26 (nthV 0 vs7) (.bool false)).bind fun t34 =>
 some (.ret t34, H8))
def F217 (N lim : Nat) (a0 : Value) (H : IHeap) : RV := B217 N (F277 N) lim a0 H
def G217 (N : Nat) : G := w1 (F217 N)
theorem eq217 (N : Nat) (g277 : RF1) (lim : Nat) (a0 : Value) (H : IHeap) : ifun Tryz.prog { fn := envOf [(277, Ideal.w1 g277)], wr := [] } { promo := [1], share := false } N (okOf Tryz.prog { promo := [1], share := false } []) Tryz.f217 (.seq (.region []) (.seq (.region []) (.seq (.region [[17], [21], [24], [25], [29], [32], [33]]) .leaf))) lim [a0] H = B217 N g277 lim a0 H := by kernel_rfl
theorem sim217 (N : Nat) : SimF Tryz.prog 217 (G217 N) := by
  refine SimF.gen [(277, G277 N)] [] { promo := [1], share := false } N (.seq (.region []) (.seq (.region []) (.seq (.region [[17], [21], [24], [25], [29], [32], [33]]) .leaf))) Tryz.func217 (by kernel_rfl) (by kernel_rfl) (env_cons (sim277 N) env_nil) ?_
  intro lim args H r h
  unfold G217 w1 at h
  split at h
  · exact (eq217 N (F277 N) lim _ H).trans h
  · simp at h
/-- besom/besomref1.place -/
def B218 (N : Nat) (lim : Nat) (p0 f1 kind2 v3 args4 : Value) (H : IHeap) : RV :=
 retK ((cellsOf true 3 p0).bind fun cs1 =>
 (cellsOf true 5 f1).bind fun cs2 =>
 catchK 0 ((ibin .eql .no kind2 (.int .u8 115)).bind fun t14 =>
 joinK (boolK t14 fun b1 => bif b1 then
 ((iload false 1 cs2 2).bind fun t16 =>
 some (.norm ([t16] ++ []), H))
 else
 (ibin .eql .no kind2 (.int .u8 116)).bind fun t18 =>
 joinK (boolK t18 fun b2 => bif b2 then
 ((iload false 1 cs2 4).bind fun t20 =>
 (ilenS t20).bind fun t21 =>
 some (.norm ([t21] ++ []), H))
 else
 (ibin .eql .no kind2 (.int .u8 102)).bind fun t23 =>
 joinK (boolK t23 fun b3 => bif b3 then
 ((iload false 1 cs1 2).bind fun t25 =>
 (ilenS t25).bind fun t26 =>
 some (.norm ([t26] ++ []), H))
 else
 (ibin .eql .no kind2 (.int .u8 112)).bind fun t28 =>
 joinK (boolK t28 fun b4 => bif b4 then
 ((iload false 1 cs1 1).bind fun t30 =>
 (ilenS t30).bind fun t31 =>
 some (.norm ([t31] ++ []), H))
 else
 (ibin .eql .no kind2 (.int .u8 103)).bind fun t33 =>
 joinK (boolK t33 fun b5 => bif b5 then
 ((iload false 1 cs1 0).bind fun t35 =>
 (ilenS t35).bind fun t36 =>
 some (.norm ([t36] ++ []), H))
 else
 (ibin .eql .no kind2 (.int .u8 111)).bind fun t38 =>
 joinK (boolK t38 fun b6 => bif b6 then
 ((iload false 1 cs2 3).bind fun t40 =>
 (ilenS t40).bind fun t41 =>
 some (.norm ([t41] ++ []), H))
 else
 (ibin .eql .no kind2 (.int .u8 105)).bind fun t43 =>
 (boolK t43 fun b7 => bif b7 then
 (some (.norm ([(.int .i64 16)] ++ []), H))
 else
 (ibin .eql .no kind2 (.int .u8 97)).bind fun t45 =>
 (boolK t45 fun b8 => bif b8 then
 ((ibin .geq .no v3 (.int .i64 0)).bind fun t47 =>
 (gval true t47).bind fun w1 => grpK (bif w1 then
 ((iload false 1 cs2 2).bind fun t51 =>
 (ibin .leq .no args4 t51).bind fun t52 =>
 some ([t52], H))
 else some ([Value.tuple #[]], H)) fun vs1 H1 =>
 (pickK t47 (nthV 0 vs1) (.bool false)).bind fun t53 =>
 (gval true t53).bind fun w2 => grpK (bif w2 then
 ((iload false 1 cs2 2).bind fun t57 =>
 (ibin .sub .no t57 args4).bind fun t59 =>
 (ibin .leq .no v3 t59).bind fun t60 =>
 some ([t60], H1))
 else some ([Value.tuple #[]], H1)) fun vs2 H2 =>
 (pickK t53 (nthV 0 vs2) (.bool false)).bind fun t61 =>
 some (.ret t61, H2))
 else
 some (.ret (.bool true), H)))) fun vs3 H3 =>
 some (.norm ([(nthV 0 vs3)] ++ []), H3)) fun vs4 H4 =>
 some (.norm ([(nthV 0 vs4)] ++ []), H4)) fun vs5 H5 =>
 some (.norm ([(nthV 0 vs5)] ++ []), H5)) fun vs6 H6 =>
 some (.norm ([(nthV 0 vs6)] ++ []), H6)) fun vs7 H7 =>
 some (.norm ([(nthV 0 vs7)] ++ []), H7)) fun vs8 H8 =>
 some (.norm ([(nthV 0 vs8)] ++ []), H8)) fun vs9 H9 =>
 (ibin .geq .no v3 (.int .i64 0)).bind fun t63 =>
 (gval true t63).bind fun w3 => grpK (bif w3 then
 ((ibin .lss .no v3 (nthV 0 vs9)).bind fun t67 =>
 some ([t67], H9))
 else some ([Value.tuple #[]], H9)) fun vs10 H10 =>
 (pickK t63 (nthV 0 vs10) (.bool false)).bind fun t68 =>
 some (.ret t68, H10))
def F218 (N lim : Nat) (a0 a1 a2 a3 a4 : Value) (H : IHeap) : RV := B218 N lim a0 a1 a2 a3 a4 H
def G218 (N : Nat) : G := w5 (F218 N)
theorem eq218 (N : Nat) (lim : Nat) (a0 a1 a2 a3 a4 : Value) (H : IHeap) : ifun Tryz.prog { fn := envOf [], wr := [] } { promo := [5, 6], share := false } N (okOf Tryz.prog { promo := [5, 6], share := false } []) Tryz.f218 (.seq (.region []) (.seq (.region []) (.seq (.seq (.region []) (.block [11] [] [] (.seq (.region []) (.join [11] [] [] (.region []) (.seq (.region []) (.join [11] [] [] (.region []) (.seq (.region []) (.join [11] [] [] (.region []) (.seq (.region []) (.join [11] [] [] (.region []) (.seq (.region []) (.join [11] [] [] (.region []) (.seq (.region []) (.join [11] [] [] (.region []) (.seq (.region []) (.inl (.region []) (.seq (.region []) (.inl (.seq (.region [[52], [60]]) .leaf) (.seq (.region []) .leaf))))))))))))))))))) (.seq (.region [[67]]) .leaf)))) lim [a0, a1, a2, a3, a4] H = B218 N lim a0 a1 a2 a3 a4 H := by kernel_rfl
theorem sim218 (N : Nat) : SimF Tryz.prog 218 (G218 N) := by
  refine SimF.gen [] [] { promo := [5, 6], share := false } N (.seq (.region []) (.seq (.region []) (.seq (.seq (.region []) (.block [11] [] [] (.seq (.region []) (.join [11] [] [] (.region []) (.seq (.region []) (.join [11] [] [] (.region []) (.seq (.region []) (.join [11] [] [] (.region []) (.seq (.region []) (.join [11] [] [] (.region []) (.seq (.region []) (.join [11] [] [] (.region []) (.seq (.region []) (.join [11] [] [] (.region []) (.seq (.region []) (.inl (.region []) (.seq (.region []) (.inl (.seq (.region [[52], [60]]) .leaf) (.seq (.region []) .leaf))))))))))))))))))) (.seq (.region [[67]]) .leaf)))) Tryz.func218 (by kernel_rfl) (by kernel_rfl) env_nil ?_
  intro lim args H r h
  unfold G218 w5 at h
  split at h
  · exact (eq218 N lim _ _ _ _ _ H).trans h
  · simp at h
/-- besom/besomref1.Instr -/
def B143 (N : Nat) (g216 : RF1) (g217 : RF1) (g218 : RF5) (lim : Nat) (p0 fn1 pc2 : Value) (H : IHeap) : RV :=
 retK ((cellsOf true 3 p0).bind fun cs1 =>
 (ibin .lss .no fn1 (.int .i64 0)).bind fun t19 =>
 (gval false t19).bind fun w1 => grpK (bif w1 then
 ((iload false 1 cs1 2).bind fun t23 =>
 (ilenS t23).bind fun t24 =>
 (ibin .geq .no fn1 t24).bind fun t25 =>
 some ([t25], H))
 else some ([Value.tuple #[]], H)) fun vs1 H1 =>
 (pickK t19 (.bool true) (nthV 0 vs1)).bind fun t26 =>
 (gval false t26).bind fun w2 => grpK (bif w2 then
 ((ibin .lss .no pc2 (.int .i64 0)).bind fun t29 =>
 some ([t29], H1))
 else some ([Value.tuple #[]], H1)) fun vs2 H2 =>
 (pickK t26 (.bool true) (nthV 0 vs2)).bind fun t30 =>
 (gval false t30).bind fun w3 => grpK (bif w3 then
 ((iload false 1 cs1 2).bind fun t34 =>
 (iidx 5 t34 fn1).bind fun t36 =>
 (paddr 4 t36).bind fun t37 =>
 (hload false 1 H2 t37).bind fun t38 =>
 (ilenS t38).bind fun t39 =>
 (ibin .geq .no pc2 t39).bind fun t40 =>
 some ([t40], H2))
 else some ([Value.tuple #[]], H2)) fun vs3 H3 =>
 (pickK t30 (.bool true) (nthV 0 vs3)).bind fun t41 =>
 (boolK t41 fun b4 => bif b4 then
 (some (.ret (.int .i64 1), H3))
 else
 (iload false 1 cs1 2).bind fun t43 =>
 (iidx 5 t43 fn1).bind fun t45 =>
 (hload true 5 H3 t45).bind fun t46 =>
 (istore true 5 [(.slice none 0 0), (.int .i64 0), (.int .i64 0), (.slice none 0 0), (.slice none 0 0)] 0 t46).bind fun cs2 =>
 (iload false 1 cs2 4).bind fun t48 =>
 (iidx 4 t48 pc2).bind fun t50 =>
 (hload true 4 H3 t50).bind fun t51 =>
 (istore true 4 [(.int .i64 0), (.int .i64 0), (.int .i64 0), (.int .i64 0)] 0 t51).bind fun cs3 =>
 (iload false 1 cs3 0).bind fun t53 =>
 callK (g216 lim t53 H3) fun t54 H4 =>
 (ibin .eql .no t54 (.string ⟨#[]⟩)).bind fun t56 =>
 (gval false t56).bind fun w4 => grpK (bif w4 then
 ((iload true 4 cs3 0).bind fun t58 =>
 callK (g217 lim t58 H4) fun t59 H6 =>
 (iun .not t59).bind fun t60 =>
 some ([t60], H6))
 else some ([Value.tuple #[]], H4)) fun vs4 H5 =>
 (pickK t56 (.bool true) (nthV 0 vs4)).bind fun t61 =>
 (boolK t61 fun b6 => bif b6 then
 (some (.ret (.int .i64 2), H5))
 else
 (iload false 1 cs3 1).bind fun t63 =>
 (iload false 1 cs3 2).bind fun t65 =>
 (iload false 1 cs3 3).bind fun t67 =>
 (istore false 1 [(.int .i64 0), (.int .i64 0), (.int .i64 0)] 0 t63).bind fun cs4 =>
 (istore false 1 cs4 1 t65).bind fun cs5 =>
 (istore false 1 cs5 2 t67).bind fun cs6 =>
 (iindexS t54 (.int .i64 1)).bind fun t70 =>
 (ibin .eql .no t70 (.int .u8 102)).bind fun t71 =>
 (gval true t71).bind fun w5 => grpK (bif w5 then
 ((iload false 1 cs3 2).bind fun t74 =>
 (ibin .geq .no t74 (.int .i64 0)).bind fun t75 =>
 some ([t75], (H5.push (.cells cs6 0))))
 else some ([Value.tuple #[]], (H5.push (.cells cs6 0)))) fun vs5 H7 =>
 (pickK t71 (nthV 0 vs5) (.bool false)).bind fun t76 =>
 (gval true t76).bind fun w6 => grpK (bif w6 then
 ((iload false 1 cs3 2).bind fun t79 =>
 (iload false 1 cs1 2).bind fun t81 =>
 (ilenS t81).bind fun t82 =>
 (ibin .lss .no t79 t82).bind fun t83 =>
 some ([t83], H7))
 else some ([Value.tuple #[]], H7)) fun vs6 H8 =>
 (pickK t76 (nthV 0 vs6) (.bool false)).bind fun t84 =>
 (iload false 1 cs2 1).bind fun t86 =>
 joinK (boolK t84 fun b9 => bif b9 then
 ((iload false 1 cs1 2).bind fun t89 =>
 (iload false 1 cs3 2).bind fun t91 =>
 (iidx 5 t89 t91).bind fun t92 =>
 (paddr 1 t92).bind fun t93 =>
 (hload false 1 H8 t93).bind fun t94 =>
 (iload false 1 cs1 2).bind fun t96 =>
 (iload false 1 cs3 2).bind fun t98 =>
 (iidx 5 t96 t98).bind fun t99 =>
 (paddr 0 t99).bind fun t100 =>
 (hload false 1 H8 t100).bind fun t101 =>
 (ilenS t101).bind fun t102 =>
 some (.norm ([t94, t102] ++ []), H8))
 else
 some (.norm ([t86, (.int .i64 0)] ++ []), H8)) fun vs7 H9 =>
 (iindexS t54 (.int .i64 1)).bind fun t104 =>
 (ibin .eql .no t104 (.int .u8 102)).bind fun t105 =>
 (gval true t105).bind fun w7 => grpK (bif w7 then
 ((iun .not t84).bind fun t108 =>
 some ([t108], H9))
 else some ([Value.tuple #[]], H9)) fun vs8 H10 =>
 (pickK t105 (nthV 0 vs8) (.bool false)).bind fun t109 =>
 (boolK t109 fun b11 => bif b11 then
 (some (.ret (.int .i64 4), H10))
 else
 catchK 0 (iloop (fun vs9 H11 =>
 (ibin .lss .no (nthV 1 vs9) (.int .i64 3)).bind fun t111 =>
 (boolK t111 fun b12 => bif b12 then
 (catchK 1 ((iindexS t54 (nthV 1 vs9)).bind fun t116 =>
 (ibin .eql .no t116 (.int .u8 114)).bind fun t117 =>
 joinK (boolK t117 fun b13 => bif b13 then
 ((ibin .eql .no (nthV 0 vs7) (.int .i64 0)).bind fun t119 =>
 (gval true t119).bind fun w8 => grpK (bif w8 then
 ((iidx 1 (slc 1 H5.next 0 3 4) (nthV 1 vs9)).bind fun t123 =>
 (hload false 1 H11 t123).bind fun t124 =>
 (ibin .neq .no t124 (.int .i64 0)).bind fun t125 =>
 some ([t125], H11))
 else some ([Value.tuple #[]], H11)) fun vs10 H12 =>
 (pickK t119 (nthV 0 vs10) (.bool false)).bind fun t126 =>
 (boolK t126 fun b15 => bif b15 then
 (some (.ret (.int .i64 2), H12))
 else
 (gval false (nthV 0 vs9)).bind fun w9 => grpK (bif w9 then
 ((ibin .neq .no (nthV 0 vs7) (.int .i64 0)).bind fun t130 =>
 some ([t130], H12))
 else some ([Value.tuple #[]], H12)) fun vs11 H13 =>
 (gval true (nthV 0 vs11)).bind fun w10 => grpK (bif w10 then
 ((iload true 3 cs1 0).bind fun t132 =>
 (iload true 5 cs2 0).bind fun t133 =>
 (iidx 1 (slc 1 H5.next 0 3 4) (nthV 1 vs9)).bind fun t136 =>
 (hload false 1 H13 t136).bind fun t137 =>
 callK (g218 lim t132 t133 (.int .u8 115) t137 (.int .i64 0) H13) fun t138 H15 =>
 (iun .not t138).bind fun t139 =>
 some ([t139], H15))
 else some ([Value.tuple #[]], H13)) fun vs12 H14 =>
 (gval false (nthV 0 vs9)).bind fun w11 => grpK (bif w11 then
 ((pickK (nthV 0 vs11) (nthV 0 vs12) (.bool false)).bind fun t140 =>
 some ([t140], H14))
 else some ([Value.tuple #[]], H14)) fun vs13 H16 =>
 (pickK (nthV 0 vs9) (.bool true) (nthV 0 vs13)).bind fun t141 =>
 some (.norm ([t141] ++ []), H16)))
 else
 (gval false (nthV 0 vs9)).bind fun w12 => grpK (bif w12 then
 ((iload true 3 cs1 0).bind fun t144 =>
 (iload true 5 cs2 0).bind fun t145 =>
 (iindexS t54 (nthV 1 vs9)).bind fun t148 =>
 (iidx 1 (slc 1 H5.next 0 3 4) (nthV 1 vs9)).bind fun t151 =>
 (hload false 1 H11 t151).bind fun t152 =>
 callK (g218 lim t144 t145 t148 t152 (nthV 1 vs7) H11) fun t154 H18 =>
 (iun .not t154).bind fun t155 =>
 some ([t155], H18))
 else some ([Value.tuple #[]], H11)) fun vs14 H17 =>
 (pickK (nthV 0 vs9) (.bool true) (nthV 0 vs14)).bind fun t156 =>
 some (.norm ([t156] ++ []), H17)) fun vs15 H19 =>
 some (.norm ([(nthV 0 vs15)] ++ []), H19)) fun vs16 H20 =>
 (ibin .add .no (nthV 1 vs9) (.int .i64 1)).bind fun t113 =>
 some (.norm ([(nthV 0 vs16), t113] ++ []), H20))
 else
 some (.exit 0 ([(nthV 0 vs9)] ++ []), H11))) N ([(.bool false), (.int .i64 0)] ++ []) H10) fun vs17 H21 =>
 (boolK (nthV 0 vs17) fun b19 => bif b19 then
 (some (.ret (.int .i64 4), H21))
 else
 (iload false 1 cs3 0).bind fun t159 =>
 (ibin .eql .no t159 (.int .i64 23)).bind fun t160 =>
 (gval false t160).bind fun w13 => grpK (bif w13 then
 ((iload false 1 cs3 0).bind fun t163 =>
 (ibin .eql .no t163 (.int .i64 24)).bind fun t164 =>
 some ([t164], H21))
 else some ([Value.tuple #[]], H21)) fun vs18 H22 =>
 (pickK t160 (.bool true) (nthV 0 vs18)).bind fun t165 =>
 joinK (boolK t165 fun b21 => bif b21 then
 ((iload false 1 cs1 2).bind fun t167 =>
 (iload false 1 cs3 2).bind fun t169 =>
 (iidx 5 t167 t169).bind fun t170 =>
 (hload true 5 H22 t170).bind fun t171 =>
 (istore true 5 [(.slice none 0 0), (.int .i64 0), (.int .i64 0), (.slice none 0 0), (.slice none 0 0)] 0 t171).bind fun cs7 =>
 catchK 2 (iloop (fun vs19 H23 =>
 (iload false 1 cs7 0).bind fun t174 =>
 (ilenS t174).bind fun t175 =>
 (ibin .lss .no (nthV 0 vs19) t175).bind fun t176 =>
 (boolK t176 fun b22 => bif b22 then
 (catchK 3 ((iload false 1 cs7 0).bind fun t180 =>
 (iidx 1 t180 (nthV 0 vs19)).bind fun t182 =>
 (hload false 1 H23 t182).bind fun t183 =>
 none) fun vs20 H24 =>
 (ibin .add .no (nthV 0 vs19) (.int .i64 1)).bind fun t178 =>
 some (.norm ([t178] ++ []), H24))
 else
 some (.exit 2 ([] ++ []), H23))) N ([(.int .i64 0)] ++ []) H22) fun vs21 H25 =>
 (iload false 1 cs7 1).bind fun t186 =>
 (ibin .neq .no t186 (.int .i64 0)).bind fun t187 =>
 (boolK t187 fun b23 => bif b23 then
 (some (.ret (.int .i64 3), H25))
 else
 some (.norm ([] ++ []), H25)))
 else
 some (.norm ([] ++ []), H22)) fun vs22 H26 =>
 (iload false 1 cs3 0).bind fun t189 =>
 (ibin .eql .no t189 (.int .i64 25)).bind fun t190 =>
 (gval false t190).bind fun w14 => grpK (bif w14 then
 ((iload false 1 cs3 0).bind fun t193 =>
 (ibin .eql .no t193 (.int .i64 26)).bind fun t194 =>
 some ([t194], H26))
 else some ([Value.tuple #[]], H26)) fun vs23 H27 =>
 (pickK t190 (.bool true) (nthV 0 vs23)).bind fun t195 =>
 (gval true t195).bind fun w15 => grpK (bif w15 then
 ((iload false 1 cs1 1).bind fun t198 =>
 (ilenS t198).bind fun t199 =>
 (ibin .eql .no t199 (.int .i64 0)).bind fun t200 =>
 some ([t200], H27))
 else some ([Value.tuple #[]], H27)) fun vs24 H28 =>
 (pickK t195 (nthV 0 vs24) (.bool false)).bind fun t201 =>
 (boolK t201 fun b26 => bif b26 then
 (some (.ret (.int .i64 3), H28))
 else
 some (.ret (.int .i64 0), H28)))))))
def F143 (N lim : Nat) (a0 a1 a2 : Value) (H : IHeap) : RV := B143 N (F216 N) (F217 N) (F218 N) lim a0 a1 a2 H
def G143 (N : Nat) : G := w3 (F143 N)
theorem eq143 (N : Nat) (g216 : RF1) (g217 : RF1) (g218 : RF5) (lim : Nat) (a0 a1 a2 : Value) (H : IHeap) : ifun Tryz.prog { fn := envOf [(216, Ideal.w1 g216), (217, Ideal.w1 g217), (218, Ideal.w5 g218)], wr := [218] } { promo := [3, 7, 8, 16], share := false } N (okOf Tryz.prog { promo := [3, 7, 8, 16], share := false } [218]) Tryz.f143 (.seq (.region []) (.seq (.seq (.region [[25], [29], [40]]) (.inl (.seq (.region []) .leaf) .leaf)) (.seq (.region []) (.seq (.region []) (.seq (.region []) (.seq (.seq (.region [[60]]) (.inl (.seq (.region []) .leaf) .leaf)) (.seq (.region []) (.seq (.region [[75], [83]]) (.seq (.region []) (.seq (.seq (.region []) (.join [12, 13] [] [] (.region []) .leaf)) (.seq (.seq (.region [[108]]) (.inl (.seq (.region []) .leaf) .leaf)) (.seq (.region []) (.seq (.seq (.region []) (.block [14] [] [] (.loop [14, 15] [] [] (.seq (.seq (.region []) (.inl .leaf .leaf)) (.seq (.block [14] [] [] (.seq (.region []) (.join [14] [] [] (.seq (.seq (.region [[125]]) (.inl (.seq (.region []) .leaf) .leaf)) (.region [[131], [139], [140]])) (.region [[155]])))) (.region [])))))) (.seq (.seq (.region []) (.inl (.seq (.region []) .leaf) .leaf)) (.seq (.seq (.region [[164]]) (.join [] [] [16] (.seq (.region []) (.seq (.seq (.region []) (.block [] [] [] (.loop [17] [] [] (.seq (.seq (.region []) (.inl .leaf .leaf)) (.seq (.block [] [] [] (.seq (.region []) (.inl (.seq (.region []) .leaf) .leaf))) (.region [])))))) (.seq (.region []) (.inl (.seq (.region []) .leaf) .leaf)))) .leaf)) (.seq (.seq (.region [[194], [200]]) (.inl (.seq (.region []) .leaf) .leaf)) (.seq (.region []) .leaf))))))))))))))))) lim [a0, a1, a2] H = B143 N g216 g217 g218 lim a0 a1 a2 H := by kernel_rfl
theorem sim143 (N : Nat) : SimF Tryz.prog 143 (G143 N) := by
  refine SimF.gen [(216, G216 N), (217, G217 N), (218, G218 N)] [218] { promo := [3, 7, 8, 16], share := false } N (.seq (.region []) (.seq (.seq (.region [[25], [29], [40]]) (.inl (.seq (.region []) .leaf) .leaf)) (.seq (.region []) (.seq (.region []) (.seq (.region []) (.seq (.seq (.region [[60]]) (.inl (.seq (.region []) .leaf) .leaf)) (.seq (.region []) (.seq (.region [[75], [83]]) (.seq (.region []) (.seq (.seq (.region []) (.join [12, 13] [] [] (.region []) .leaf)) (.seq (.seq (.region [[108]]) (.inl (.seq (.region []) .leaf) .leaf)) (.seq (.region []) (.seq (.seq (.region []) (.block [14] [] [] (.loop [14, 15] [] [] (.seq (.seq (.region []) (.inl .leaf .leaf)) (.seq (.block [14] [] [] (.seq (.region []) (.join [14] [] [] (.seq (.seq (.region [[125]]) (.inl (.seq (.region []) .leaf) .leaf)) (.region [[131], [139], [140]])) (.region [[155]])))) (.region [])))))) (.seq (.seq (.region []) (.inl (.seq (.region []) .leaf) .leaf)) (.seq (.seq (.region [[164]]) (.join [] [] [16] (.seq (.region []) (.seq (.seq (.region []) (.block [] [] [] (.loop [17] [] [] (.seq (.seq (.region []) (.inl .leaf .leaf)) (.seq (.block [] [] [] (.seq (.region []) (.inl (.seq (.region []) .leaf) .leaf))) (.region [])))))) (.seq (.region []) (.inl (.seq (.region []) .leaf) .leaf)))) .leaf)) (.seq (.seq (.region [[194], [200]]) (.inl (.seq (.region []) .leaf) .leaf)) (.seq (.region []) .leaf))))))))))))))))) Tryz.func143 (by kernel_rfl) (by kernel_rfl) (env_cons (sim216 N) (env_cons (sim217 N) (env_cons (sim218 N) env_nil))) ?_
  intro lim args H r h
  unfold G143 w3 at h
  split at h
  · exact (eq143 N (F216 N) (F217 N) (F218 N) lim _ _ _ H).trans h
  · simp at h
/-- besom/besomref1.Func -/
def B77 (N : Nat) (g76 : RF2) (g143 : RF3) (lim : Nat) (p0 fn1 : Value) (H : IHeap) : RV :=
 retK ((cellsOf true 3 p0).bind fun cs1 =>
 (ibin .lss .no fn1 (.int .i64 0)).bind fun t12 =>
 (gval false t12).bind fun w1 => grpK (bif w1 then
 ((iload false 1 cs1 2).bind fun t16 =>
 (ilenS t16).bind fun t17 =>
 (ibin .geq .no fn1 t17).bind fun t18 =>
 some ([t18], H))
 else some ([Value.tuple #[]], H)) fun vs1 H1 =>
 (pickK t12 (.bool true) (nthV 0 vs1)).bind fun t19 =>
 (boolK t19 fun b2 => bif b2 then
 (some (.ret (.tuple ⟨[(.int .i64 1), (.int .i64 0)]⟩), H1))
 else
 (iload false 1 cs1 2).bind fun t21 =>
 (iidx 5 t21 fn1).bind fun t23 =>
 (hload true 5 H1 t23).bind fun t24 =>
 (istore true 5 [(.slice none 0 0), (.int .i64 0), (.int .i64 0), (.slice none 0 0), (.slice none 0 0)] 0 t24).bind fun cs2 =>
 (iload false 1 cs2 2).bind fun t26 =>
 (iload false 1 cs2 0).bind fun t28 =>
 (ilenS t28).bind fun t29 =>
 (ibin .lss .no t26 t29).bind fun t30 =>
 (gval false t30).bind fun w2 => grpK (bif w2 then
 ((iload false 1 cs2 2).bind fun t33 =>
 (ibin .gtr .no t33 (.int .i64 16)).bind fun t34 =>
 some ([t34], H1))
 else some ([Value.tuple #[]], H1)) fun vs2 H2 =>
 (pickK t30 (.bool true) (nthV 0 vs2)).bind fun t35 =>
 (gval false t35).bind fun w3 => grpK (bif w3 then
 ((iload false 1 cs2 3).bind fun t38 =>
 (ilenS t38).bind fun t39 =>
 (ibin .gtr .no t39 (.int .i64 8)).bind fun t40 =>
 some ([t40], H2))
 else some ([Value.tuple #[]], H2)) fun vs3 H3 =>
 (pickK t35 (.bool true) (nthV 0 vs3)).bind fun t41 =>
 (gval false t41).bind fun w4 => grpK (bif w4 then
 ((iload false 1 cs2 4).bind fun t44 =>
 (ilenS t44).bind fun t45 =>
 (ibin .lss .no t45 (.int .i64 1)).bind fun t46 =>
 some ([t46], H3))
 else some ([Value.tuple #[]], H3)) fun vs4 H4 =>
 (pickK t41 (.bool true) (nthV 0 vs4)).bind fun t47 =>
 (gval false t47).bind fun w5 => grpK (bif w5 then
 ((iload false 1 cs2 4).bind fun t50 =>
 (ilenS t50).bind fun t51 =>
 (ibin .gtr .no t51 (.int .i64 64)).bind fun t52 =>
 some ([t52], H4))
 else some ([Value.tuple #[]], H4)) fun vs5 H5 =>
 (pickK t47 (.bool true) (nthV 0 vs5)).bind fun t53 =>
 (boolK t53 fun b7 => bif b7 then
 (some (.ret (.tuple ⟨[(.int .i64 1), (.int .i64 0)]⟩), H5))
 else
 catchK 0 (iloop (fun vs6 H6 =>
 (iload false 1 cs2 0).bind fun t56 =>
 (ilenS t56).bind fun t57 =>
 (ibin .lss .no (nthV 0 vs6) t57).bind fun t58 =>
 (boolK t58 fun b8 => bif b8 then
 (catchK 1 ((iload false 1 cs2 0).bind fun t62 =>
 (iidx 1 t62 (nthV 0 vs6)).bind fun t64 =>
 (hload false 1 H6 t64).bind fun t65 =>
 (iload false 1 cs1 1).bind fun t67 =>
 (ilenS t67).bind fun t68 =>
 none) fun vs7 H7 =>
 (ibin .add .no (nthV 0 vs6) (.int .i64 1)).bind fun t60 =>
 some (.norm ([t60] ++ []), H7))
 else
 some (.exit 0 ([] ++ []), H6))) N ([(.int .i64 0)] ++ []) H5) fun vs8 H8 =>
 (iload false 1 cs2 1).bind fun t72 =>
 (ibin .neq .no t72 (.int .i64 0)).bind fun t73 =>
 (gval true t73).bind fun w6 => grpK (bif w6 then
 ((iload false 1 cs2 1).bind fun t76 =>
 (iload false 1 cs1 1).bind fun t78 =>
 (ilenS t78).bind fun t79 =>
 callK (g76 lim t76 t79 H8) fun t80 H10 =>
 (iun .not t80).bind fun t81 =>
 some ([t81], H10))
 else some ([Value.tuple #[]], H8)) fun vs9 H9 =>
 (pickK t73 (nthV 0 vs9) (.bool false)).bind fun t82 =>
 (boolK t82 fun b10 => bif b10 then
 (some (.ret (.tuple ⟨[(.int .i64 3), (.int .i64 0)]⟩), H9))
 else
 catchK 2 (iloop (fun vs10 H11 =>
 (iload false 1 cs2 3).bind fun t85 =>
 (ilenS t85).bind fun t86 =>
 (ibin .lss .no (nthV 0 vs10) t86).bind fun t87 =>
 (boolK t87 fun b11 => bif b11 then
 (catchK 3 ((iload false 1 cs2 3).bind fun t91 =>
 (iidx 1 t91 (nthV 0 vs10)).bind fun t93 =>
 (hload false 1 H11 t93).bind fun t94 =>
 (ibin .lss .no t94 (.int .i64 0)).bind fun t95 =>
 (gval false t95).bind fun w7 => grpK (bif w7 then
 ((iload false 1 cs2 3).bind fun t98 =>
 (iidx 1 t98 (nthV 0 vs10)).bind fun t100 =>
 (hload false 1 H11 t100).bind fun t101 =>
 (iload false 1 cs1 1).bind fun t103 =>
 (ilenS t103).bind fun t104 =>
 (ibin .geq .no t101 t104).bind fun t105 =>
 some ([t105], H11))
 else some ([Value.tuple #[]], H11)) fun vs11 H12 =>
 (pickK t95 (.bool true) (nthV 0 vs11)).bind fun t106 =>
 (boolK t106 fun b13 => bif b13 then
 (some (.ret (.tuple ⟨[(.int .i64 4), (.int .i64 0)]⟩), H12))
 else
 some (.norm ([] ++ []), H12))) fun vs12 H13 =>
 (ibin .add .no (nthV 0 vs10) (.int .i64 1)).bind fun t89 =>
 some (.norm ([t89] ++ []), H13))
 else
 some (.exit 2 ([] ++ []), H11))) N ([(.int .i64 0)] ++ []) H9) fun vs13 H14 =>
 catchK 4 (iloop (fun vs14 H15 =>
 (iload false 1 cs2 4).bind fun t109 =>
 (ilenS t109).bind fun t110 =>
 (ibin .lss .no (nthV 0 vs14) t110).bind fun t111 =>
 (boolK t111 fun b14 => bif b14 then
 (catchK 5 ((iload true 3 cs1 0).bind fun t114 =>
 callK (g143 lim t114 fn1 (nthV 0 vs14) H15) fun t117 H16 =>
 (ibin .neq .no t117 (.int .i64 0)).bind fun t119 =>
 (boolK t119 fun b15 => bif b15 then
 (some (.ret (.tuple ⟨[t117, (nthV 0 vs14)]⟩), H16))
 else
 some (.norm ([] ++ []), H16))) fun vs15 H17 =>
 (ibin .add .no (nthV 0 vs14) (.int .i64 1)).bind fun t113 =>
 some (.norm ([t113] ++ []), H17))
 else
 some (.exit 4 ([] ++ []), H15))) N ([(.int .i64 0)] ++ []) H14) fun vs16 H18 =>
 some (.ret (.tuple ⟨[(.int .i64 0), (.int .i64 0)]⟩), H18)))))
def F77 (N lim : Nat) (a0 a1 : Value) (H : IHeap) : RV := B77 N (F76 N) (F143 N) lim a0 a1 H
def G77 (N : Nat) : G := w2 (F77 N)
theorem eq77 (N : Nat) (g76 : RF2) (g143 : RF3) (lim : Nat) (a0 a1 : Value) (H : IHeap) : ifun Tryz.prog { fn := envOf [(76, Ideal.w2 g76), (143, Ideal.w3 g143)], wr := [142] } { promo := [2, 6], share := false } N (okOf Tryz.prog { promo := [2, 6], share := false } [142]) Tryz.f77 (.seq (.region []) (.seq (.seq (.region [[18]]) (.inl (.seq (.region []) .leaf) .leaf)) (.seq (.region []) (.seq (.seq (.region [[34], [40], [46], [52]]) (.inl (.seq (.region []) .leaf) .leaf)) (.seq (.seq (.region []) (.block [] [] [] (.loop [7] [] [] (.seq (.seq (.region []) (.inl .leaf .leaf)) (.seq (.block [] [] [] (.seq (.region []) (.inl (.seq (.region []) .leaf) .leaf))) (.region [])))))) (.seq (.seq (.region [[81]]) (.inl (.seq (.region []) .leaf) .leaf)) (.seq (.seq (.region []) (.block [] [] [] (.loop [8] [] [] (.seq (.seq (.region []) (.inl .leaf .leaf)) (.seq (.block [] [] [] (.seq (.region [[105]]) (.inl (.seq (.region []) .leaf) .leaf))) (.region [])))))) (.seq (.seq (.region []) (.block [] [] [] (.loop [9] [] [] (.seq (.seq (.region []) (.inl .leaf .leaf)) (.seq (.block [] [] [] (.seq (.region []) (.seq (.region []) (.inl (.seq (.region []) .leaf) .leaf)))) (.region [])))))) (.seq (.region []) .leaf))))))))) lim [a0, a1] H = B77 N g76 g143 lim a0 a1 H := by kernel_rfl
theorem sim77 (N : Nat) : SimF Tryz.prog 77 (G77 N) := by
  refine SimF.gen [(76, G76 N), (143, G143 N)] [142] { promo := [2, 6], share := false } N (.seq (.region []) (.seq (.seq (.region [[18]]) (.inl (.seq (.region []) .leaf) .leaf)) (.seq (.region []) (.seq (.seq (.region [[34], [40], [46], [52]]) (.inl (.seq (.region []) .leaf) .leaf)) (.seq (.seq (.region []) (.block [] [] [] (.loop [7] [] [] (.seq (.seq (.region []) (.inl .leaf .leaf)) (.seq (.block [] [] [] (.seq (.region []) (.inl (.seq (.region []) .leaf) .leaf))) (.region [])))))) (.seq (.seq (.region [[81]]) (.inl (.seq (.region []) .leaf) .leaf)) (.seq (.seq (.region []) (.block [] [] [] (.loop [8] [] [] (.seq (.seq (.region []) (.inl .leaf .leaf)) (.seq (.block [] [] [] (.seq (.region [[105]]) (.inl (.seq (.region []) .leaf) .leaf))) (.region [])))))) (.seq (.seq (.region []) (.block [] [] [] (.loop [9] [] [] (.seq (.seq (.region []) (.inl .leaf .leaf)) (.seq (.block [] [] [] (.seq (.region []) (.seq (.region []) (.inl (.seq (.region []) .leaf) .leaf)))) (.region [])))))) (.seq (.region []) .leaf))))))))) Tryz.func77 (by kernel_rfl) (by kernel_rfl) (env_cons (sim76 N) (env_cons (sim143 N) env_nil)) ?_
  intro lim args H r h
  unfold G77 w2 at h
  split at h
  · exact (eq77 N (F76 N) (F143 N) lim _ _ H).trans h
  · simp at h
/-- besom/besomref1.Check -/
def B31 (N : Nat) (g75 : RF1) (g76 : RF2) (g77 : RF2) (lim : Nat) (p0 : Value) (H : IHeap) : RV :=
 retK ((cellsOf true 3 p0).bind fun cs1 =>
 (iload false 1 cs1 1).bind fun t11 =>
 callK (g75 lim t11 H) fun t12 H1 =>
 (ibin .neq .no t12 (.int .i64 0)).bind fun t14 =>
 (boolK t14 fun b1 => bif b1 then
 (some (.ret (.tuple ⟨[t12, (.int .i64 0), (.int .i64 0)]⟩), H1))
 else
 (iload false 1 cs1 0).bind fun t17 =>
 (ilenS t17).bind fun t18 =>
 (ibin .gtr .no t18 (.int .i64 16)).bind fun t19 =>
 (gval false t19).bind fun w1 => grpK (bif w1 then
 ((iload false 1 cs1 2).bind fun t22 =>
 (ilenS t22).bind fun t23 =>
 (ibin .lss .no t23 (.int .i64 1)).bind fun t24 =>
 some ([t24], H1))
 else some ([Value.tuple #[]], H1)) fun vs1 H2 =>
 (pickK t19 (.bool true) (nthV 0 vs1)).bind fun t25 =>
 (gval false t25).bind fun w2 => grpK (bif w2 then
 ((iload false 1 cs1 2).bind fun t28 =>
 (ilenS t28).bind fun t29 =>
 (ibin .gtr .no t29 (.int .i64 16)).bind fun t30 =>
 some ([t30], H2))
 else some ([Value.tuple #[]], H2)) fun vs2 H3 =>
 (pickK t25 (.bool true) (nthV 0 vs2)).bind fun t31 =>
 (boolK t31 fun b4 => bif b4 then
 (some (.ret (.tuple ⟨[(.int .i64 1), (.int .i64 0), (.int .i64 0)]⟩), H3))
 else
 catchK 0 (iloop (fun vs3 H4 =>
 (iload false 1 cs1 0).bind fun t34 =>
 (ilenS t34).bind fun t35 =>
 (ibin .lss .no (nthV 0 vs3) t35).bind fun t36 =>
 (boolK t36 fun b5 => bif b5 then
 (catchK 1 ((iload false 1 cs1 0).bind fun t40 =>
 (iidx 1 t40 (nthV 0 vs3)).bind fun t42 =>
 (hload false 1 H4 t42).bind fun t43 =>
 (iload false 1 cs1 1).bind fun t45 =>
 (ilenS t45).bind fun t46 =>
 callK (g76 lim t43 t46 H4) fun t47 H5 =>
 (iun .not t47).bind fun t48 =>
 (boolK t48 fun b6 => bif b6 then
 (some (.ret (.tuple ⟨[(.int .i64 3), (.int .i64 0), (.int .i64 0)]⟩), H5))
 else
 some (.norm ([] ++ []), H5))) fun vs4 H6 =>
 (ibin .add .no (nthV 0 vs3) (.int .i64 1)).bind fun t38 =>
 some (.norm ([t38] ++ []), H6))
 else
 some (.exit 0 ([] ++ []), H4))) N ([(.int .i64 0)] ++ []) H3) fun vs5 H7 =>
 (iload false 1 cs1 2).bind fun t50 =>
 (iidx 5 t50 (.int .i64 0)).bind fun t51 =>
 (paddr 0 t51).bind fun t52 =>
 (hload false 1 H7 t52).bind fun t53 =>
 (ilenS t53).bind fun t54 =>
 (ibin .gtr .no t54 (.int .i64 0)).bind fun t55 =>
 (gval false t55).bind fun w3 => grpK (bif w3 then
 ((iload false 1 cs1 2).bind fun t58 =>
 (iidx 5 t58 (.int .i64 0)).bind fun t59 =>
 (paddr 1 t59).bind fun t60 =>
 (hload false 1 H7 t60).bind fun t61 =>
 (ibin .neq .no t61 (.int .i64 0)).bind fun t62 =>
 some ([t62], H7))
 else some ([Value.tuple #[]], H7)) fun vs6 H8 =>
 (pickK t55 (.bool true) (nthV 0 vs6)).bind fun t63 =>
 (boolK t63 fun b8 => bif b8 then
 (some (.ret (.tuple ⟨[(.int .i64 3), (.int .i64 0), (.int .i64 0)]⟩), H8))
 else
 catchK 2 (iloop (fun vs7 H9 =>
 (iload false 1 cs1 2).bind fun t66 =>
 (ilenS t66).bind fun t67 =>
 (ibin .lss .no (nthV 0 vs7) t67).bind fun t68 =>
 (boolK t68 fun b9 => bif b9 then
 (catchK 3 ((iload true 3 cs1 0).bind fun t72 =>
 callK (g77 lim t72 (nthV 0 vs7) H9) fun t74 H10 =>
 (iextract 0 t74).bind fun t75 =>
 (iextract 1 t74).bind fun t76 =>
 (ibin .neq .no t75 (.int .i64 0)).bind fun t78 =>
 (boolK t78 fun b10 => bif b10 then
 (some (.ret (.tuple ⟨[t75, (nthV 0 vs7), t76]⟩), H10))
 else
 some (.norm ([] ++ []), H10))) fun vs8 H11 =>
 (ibin .add .no (nthV 0 vs7) (.int .i64 1)).bind fun t70 =>
 some (.norm ([t70] ++ []), H11))
 else
 some (.exit 2 ([] ++ []), H9))) N ([(.int .i64 0)] ++ []) H8) fun vs9 H12 =>
 some (.ret (.tuple ⟨[(.int .i64 0), (.int .i64 0), (.int .i64 0)]⟩), H12)))))
def F31 (N lim : Nat) (a0 : Value) (H : IHeap) : RV := B31 N (F75 N) (F76 N) (F77 N) lim a0 H
def G31 (N : Nat) : G := w1 (F31 N)
theorem eq31 (N : Nat) (g75 : RF1) (g76 : RF2) (g77 : RF2) (lim : Nat) (a0 : Value) (H : IHeap) : ifun Tryz.prog { fn := envOf [(75, Ideal.w1 g75), (76, Ideal.w2 g76), (77, Ideal.w2 g77)], wr := [76] } { promo := [1], share := false } N (okOf Tryz.prog { promo := [1], share := false } [76]) Tryz.f31 (.seq (.region []) (.seq (.region []) (.seq (.seq (.region []) (.inl (.seq (.region []) .leaf) .leaf)) (.seq (.seq (.region [[24], [30]]) (.inl (.seq (.region []) .leaf) .leaf)) (.seq (.seq (.region []) (.block [] [] [] (.loop [6] [] [] (.seq (.seq (.region []) (.inl .leaf .leaf)) (.seq (.block [] [] [] (.seq (.region []) (.inl (.seq (.region []) .leaf) .leaf))) (.region [])))))) (.seq (.seq (.region [[62]]) (.inl (.seq (.region []) .leaf) .leaf)) (.seq (.seq (.region []) (.block [] [] [] (.loop [7] [] [] (.seq (.seq (.region []) (.inl .leaf .leaf)) (.seq (.block [] [] [] (.seq (.region []) (.seq (.region []) (.inl (.seq (.region []) .leaf) .leaf)))) (.region [])))))) (.seq (.region []) .leaf)))))))) lim [a0] H = B31 N g75 g76 g77 lim a0 H := by kernel_rfl
theorem sim31 (N : Nat) : SimF Tryz.prog 31 (G31 N) := by
  refine SimF.gen [(75, G75 N), (76, G76 N), (77, G77 N)] [76] { promo := [1], share := false } N (.seq (.region []) (.seq (.region []) (.seq (.seq (.region []) (.inl (.seq (.region []) .leaf) .leaf)) (.seq (.seq (.region [[24], [30]]) (.inl (.seq (.region []) .leaf) .leaf)) (.seq (.seq (.region []) (.block [] [] [] (.loop [6] [] [] (.seq (.seq (.region []) (.inl .leaf .leaf)) (.seq (.block [] [] [] (.seq (.region []) (.inl (.seq (.region []) .leaf) .leaf))) (.region [])))))) (.seq (.seq (.region [[62]]) (.inl (.seq (.region []) .leaf) .leaf)) (.seq (.seq (.region []) (.block [] [] [] (.loop [7] [] [] (.seq (.seq (.region []) (.inl .leaf .leaf)) (.seq (.block [] [] [] (.seq (.region []) (.seq (.region []) (.inl (.seq (.region []) .leaf) .leaf)))) (.region [])))))) (.seq (.region []) .leaf)))))))) Tryz.func31 (by kernel_rfl) (by kernel_rfl) (env_cons (sim75 N) (env_cons (sim76 N) (env_cons (sim77 N) env_nil))) ?_
  intro lim args H r h
  unfold G31 w1 at h
  split at h
  · exact (eq31 N (F75 N) (F76 N) (F77 N) lim _ H).trans h
  · simp at h
/-- besom/besomref1.Writes -/
def B146 (N : Nat) (lim : Nat) (i0 : Value) (H : IHeap) : RV :=
 retK ((cellsOf true 4 i0).bind fun cs1 =>
 (iload false 1 cs1 0).bind fun t5 =>
 catchK 0 ((ibin .eql .no t5 (.int .i64 1)).bind fun t7 =>
 joinK (boolK t7 fun b1 => bif b1 then
 (some (.norm ([t7] ++ []), H))
 else
 (ibin .eql .no t5 (.int .i64 2)).bind fun t8 =>
 joinK (boolK t8 fun b2 => bif b2 then
 (some (.norm ([t8] ++ []), H))
 else
 (ibin .eql .no t5 (.int .i64 3)).bind fun t9 =>
 joinK (boolK t9 fun b3 => bif b3 then
 (some (.norm ([t9] ++ []), H))
 else
 (ibin .eql .no t5 (.int .i64 4)).bind fun t10 =>
 joinK (boolK t10 fun b4 => bif b4 then
 (some (.norm ([t10] ++ []), H))
 else
 (ibin .eql .no t5 (.int .i64 5)).bind fun t11 =>
 joinK (boolK t11 fun b5 => bif b5 then
 (some (.norm ([t11] ++ []), H))
 else
 (ibin .eql .no t5 (.int .i64 6)).bind fun t12 =>
 joinK (boolK t12 fun b6 => bif b6 then
 (some (.norm ([t12] ++ []), H))
 else
 (ibin .eql .no t5 (.int .i64 7)).bind fun t13 =>
 joinK (boolK t13 fun b7 => bif b7 then
 (some (.norm ([t13] ++ []), H))
 else
 (ibin .eql .no t5 (.int .i64 8)).bind fun t14 =>
 joinK (boolK t14 fun b8 => bif b8 then
 (some (.norm ([t14] ++ []), H))
 else
 (ibin .eql .no t5 (.int .i64 11)).bind fun t15 =>
 joinK (boolK t15 fun b9 => bif b9 then
 (some (.norm ([t15] ++ []), H))
 else
 (ibin .eql .no t5 (.int .i64 12)).bind fun t16 =>
 joinK (boolK t16 fun b10 => bif b10 then
 (some (.norm ([t16] ++ []), H))
 else
 (ibin .eql .no t5 (.int .i64 13)).bind fun t17 =>
 joinK (boolK t17 fun b11 => bif b11 then
 (some (.norm ([t17] ++ []), H))
 else
 (ibin .eql .no t5 (.int .i64 14)).bind fun t18 =>
 joinK (boolK t18 fun b12 => bif b12 then
 (some (.norm ([t18] ++ []), H))
 else
 (ibin .eql .no t5 (.int .i64 16)).bind fun t19 =>
 joinK (boolK t19 fun b13 => bif b13 then
 (some (.norm ([t19] ++ []), H))
 else
 (ibin .eql .no t5 (.int .i64 18)).bind fun t20 =>
 joinK (boolK t20 fun b14 => bif b14 then
 (some (.norm ([t20] ++ []), H))
 else
 (ibin .eql .no t5 (.int .i64 19)).bind fun t21 =>
 joinK (boolK t21 fun b15 => bif b15 then
 (some (.norm ([t21] ++ []), H))
 else
 (ibin .eql .no t5 (.int .i64 21)).bind fun t22 =>
 joinK (boolK t22 fun b16 => bif b16 then
 (some (.norm ([t22] ++ []), H))
 else
 (ibin .eql .no t5 (.int .i64 26)).bind fun t23 =>
 some (.norm ([t23] ++ []), H)) fun vs1 H1 =>
 some (.norm ([(nthV 0 vs1)] ++ []), H1)) fun vs2 H2 =>
 some (.norm ([(nthV 0 vs2)] ++ []), H2)) fun vs3 H3 =>
 some (.norm ([(nthV 0 vs3)] ++ []), H3)) fun vs4 H4 =>
 some (.norm ([(nthV 0 vs4)] ++ []), H4)) fun vs5 H5 =>
 some (.norm ([(nthV 0 vs5)] ++ []), H5)) fun vs6 H6 =>
 some (.norm ([(nthV 0 vs6)] ++ []), H6)) fun vs7 H7 =>
 some (.norm ([(nthV 0 vs7)] ++ []), H7)) fun vs8 H8 =>
 some (.norm ([(nthV 0 vs8)] ++ []), H8)) fun vs9 H9 =>
 some (.norm ([(nthV 0 vs9)] ++ []), H9)) fun vs10 H10 =>
 some (.norm ([(nthV 0 vs10)] ++ []), H10)) fun vs11 H11 =>
 some (.norm ([(nthV 0 vs11)] ++ []), H11)) fun vs12 H12 =>
 some (.norm ([(nthV 0 vs12)] ++ []), H12)) fun vs13 H13 =>
 some (.norm ([(nthV 0 vs13)] ++ []), H13)) fun vs14 H14 =>
 some (.norm ([(nthV 0 vs14)] ++ []), H14)) fun vs15 H15 =>
 some (.norm ([(nthV 0 vs15)] ++ []), H15)) fun vs16 H16 =>
 (boolK (nthV 0 vs16) fun b17 => bif b17 then
 ((iload false 1 cs1 1).bind fun t25 =>
 some (.ret (.tuple ⟨[t25, (.bool true)]⟩), H16))
 else
 some (.norm ([] ++ []), H16))) fun vs17 H17 =>
 some (.ret (.tuple ⟨[(.int .i64 0), (.bool false)]⟩), H17))
def F146 (N lim : Nat) (a0 : Value) (H : IHeap) : RV := B146 N lim a0 H
def G146 (N : Nat) : G := w1 (F146 N)
theorem eq146 (N : Nat) (lim : Nat) (a0 : Value) (H : IHeap) : ifun Tryz.prog { fn := envOf [], wr := [] } { promo := [1], share := false } N (okOf Tryz.prog { promo := [1], share := false } []) Tryz.f146 (.seq (.region []) (.seq (.seq (.region []) (.block [] [] [] (.seq (.seq (.region []) (.join [6] [] [] .leaf (.seq (.region []) (.join [6] [] [] .leaf (.seq (.region []) (.join [6] [] [] .leaf (.seq (.region []) (.join [6] [] [] .leaf (.seq (.region []) (.join [6] [] [] .leaf (.seq (.region []) (.join [6] [] [] .leaf (.seq (.region []) (.join [6] [] [] .leaf (.seq (.region []) (.join [6] [] [] .leaf (.seq (.region []) (.join [6] [] [] .leaf (.seq (.region []) (.join [6] [] [] .leaf (.seq (.region []) (.join [6] [] [] .leaf (.seq (.region []) (.join [6] [] [] .leaf (.seq (.region []) (.join [6] [] [] .leaf (.seq (.region []) (.join [6] [] [] .leaf (.seq (.region []) (.join [6] [] [] .leaf (.seq (.region []) (.join [6] [] [] .leaf (.region []))))))))))))))))))))))))))))))))) (.inl (.seq (.region []) .leaf) .leaf)))) (.seq (.region []) .leaf))) lim [a0] H = B146 N lim a0 H := by kernel_rfl
theorem sim146 (N : Nat) : SimF Tryz.prog 146 (G146 N) := by
  refine SimF.gen [] [] { promo := [1], share := false } N (.seq (.region []) (.seq (.seq (.region []) (.block [] [] [] (.seq (.seq (.region []) (.join [6] [] [] .leaf (.seq (.region []) (.join [6] [] [] .leaf (.seq (.region []) (.join [6] [] [] .leaf (.seq (.region []) (.join [6] [] [] .leaf (.seq (.region []) (.join [6] [] [] .leaf (.seq (.region []) (.join [6] [] [] .leaf (.seq (.region []) (.join [6] [] [] .leaf (.seq (.region []) (.join [6] [] [] .leaf (.seq (.region []) (.join [6] [] [] .leaf (.seq (.region []) (.join [6] [] [] .leaf (.seq (.region []) (.join [6] [] [] .leaf (.seq (.region []) (.join [6] [] [] .leaf (.seq (.region []) (.join [6] [] [] .leaf (.seq (.region []) (.join [6] [] [] .leaf (.seq (.region []) (.join [6] [] [] .leaf (.seq (.region []) (.join [6] [] [] .leaf (.region []))))))))))))))))))))))))))))))))) (.inl (.seq (.region []) .leaf) .leaf)))) (.seq (.region []) .leaf))) Tryz.func146 (by kernel_rfl) (by kernel_rfl) env_nil ?_
  intro lim args H r h
  unfold G146 w1 at h
  split at h
  · exact (eq146 N lim _ H).trans h
  · simp at h
end Go.Ideal
