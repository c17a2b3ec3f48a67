/- This text proves no statement of the seat: it says what functions of the program do on the ideal machine, part 3. By program (emitall.py). -/
import Derived.Test.YtpiddcbddilamaaGreatDoorFc
namespace Go.Ideal
open Go.Proofs
set_option maxRecDepth 100000
set_option linter.unusedVariables false
/-- besom/world.Check -/
def B23 (N : Nat) (lim : Nat) (c0 : Value) (H : IHeap) : RV :=
 retK ((cellsOf true 5 c0).bind fun cs1 =>
 (iload false 1 cs1 0).bind fun t6 =>
 (istore false 1 [(.int .i64 0), (.int .i64 0), (.int .i64 0)] 0 (.int .i64 1)).bind fun cs2 =>
 (istore false 1 cs2 1 t6).bind fun cs3 =>
 (istore false 1 cs3 2 (.int .i64 64)).bind fun cs4 =>
 (iload false 1 cs1 1).bind fun t9 =>
 (iload false 1 cs1 2).bind fun t11 =>
 (istore false 1 [(.int .i64 0), (.int .i64 0), (.int .i64 0)] 0 (.int .i64 1)).bind fun cs5 =>
 (istore false 1 cs5 1 t9).bind fun cs6 =>
 (istore false 1 cs6 2 t11).bind fun cs7 =>
 (iload false 1 cs1 2).bind fun t14 =>
 (istore false 1 [(.int .i64 0), (.int .i64 0), (.int .i64 0)] 0 (.int .i64 1)).bind fun cs8 =>
 (istore false 1 cs8 1 t14).bind fun cs9 =>
 (istore false 1 cs9 2 (.int .i64 4096)).bind fun cs10 =>
 (iload false 1 cs1 3).bind fun t17 =>
 (istore false 1 [(.int .i64 0), (.int .i64 0), (.int .i64 0)] 0 (.int .i64 1)).bind fun cs11 =>
 (istore false 1 cs11 1 t17).bind fun cs12 =>
 (istore false 1 cs12 2 (.int .i64 1000000)).bind fun cs13 =>
 (iload false 1 cs1 4).bind fun t20 =>
 (istore false 1 [(.int .i64 0), (.int .i64 0), (.int .i64 0)] 0 (.int .i64 1)).bind fun cs14 =>
 (istore false 1 cs14 1 t20).bind fun cs15 =>
 (istore false 1 cs15 2 (.int .i64 1000)).bind fun cs16 =>
 (istore true 3 [(.int .i64 0), (.int .i64 0), (.int .i64 0), (.int .i64 0), (.int .i64 0), (.int .i64 0), (.int .i64 0), (.int .i64 0), (.int .i64 0), (.int .i64 0), (.int .i64 0), (.int .i64 0), (.int .i64 0), (.int .i64 0), (.int .i64 0)] 0 (.agg ⟨cs4⟩)).bind fun cs17 =>
 (istore true 3 cs17 3 (.agg ⟨cs7⟩)).bind fun cs18 =>
 (istore true 3 cs18 6 (.agg ⟨cs10⟩)).bind fun cs19 =>
 (istore true 3 cs19 9 (.agg ⟨cs13⟩)).bind fun cs20 =>
 (istore true 3 cs20 12 (.agg ⟨cs16⟩)).bind fun cs21 =>
 (ilenS (slc 3 H.next 0 5 6)).bind fun t23 =>
 catchK 0 (iloop (fun vs1 H1 =>
 (ibin .lss .no (nthV 0 vs1) t23).bind fun t25 =>
 (boolK t25 fun b1 => bif b1 then
 (catchK 1 ((iidx 3 (slc 3 H.next 0 5 6) (nthV 0 vs1)).bind fun t26 =>
 (hload true 3 H1 t26).bind fun t27 =>
 (istore true 3 [(.int .i64 0), (.int .i64 0), (.int .i64 0)] 0 t27).bind fun cs22 =>
 (iidxA 3 1 (.int .i64 1)).bind fun o1 =>
 (iload false 1 cs22 (0 + o1)).bind fun t29 =>
 (iidxA 3 1 (.int .i64 0)).bind fun o2 =>
 (iload false 1 cs22 (0 + o2)).bind fun t31 =>
 (ibin .lss .no t29 t31).bind fun t32 =>
 (gval false t32).bind fun w1 => grpK (bif w1 then
 ((iidxA 3 1 (.int .i64 1)).bind fun o3 =>
 (iload false 1 cs22 (0 + o3)).bind fun t35 =>
 (iidxA 3 1 (.int .i64 2)).bind fun o4 =>
 (iload false 1 cs22 (0 + o4)).bind fun t37 =>
 (ibin .gtr .no t35 t37).bind fun t38 =>
 some ([t38], H1))
 else some ([Value.tuple #[]], H1)) fun vs2 H2 =>
 (pickK t32 (.bool true) (nthV 0 vs2)).bind fun t39 =>
 (boolK t39 fun b3 => bif b3 then
 (some (.ret (.int .i64 1), H2))
 else
 some (.norm ([] ++ []), H2))) fun vs3 H3 =>
 (ibin .add .no (nthV 0 vs1) (.int .i64 1)).bind fun t40 =>
 some (.norm ([t40] ++ []), H3))
 else
 some (.exit 0 ([] ++ []), H1))) N ([(.int .i64 0)] ++ []) (H.push (.cells cs21 0))) fun vs4 H4 =>
 some (.ret (.int .i64 0), H4))
def F23 (N lim : Nat) (a0 : Value) (H : IHeap) : RV := B23 N lim a0 H
def G23 (N : Nat) : G := w1 (F23 N)
theorem eq23 (N : Nat) (lim : Nat) (a0 : Value) (H : IHeap) : ifun Tryz.prog { fn := envOf [], wr := [] } { promo := [1, 4], share := false } N (okOf Tryz.prog { promo := [1, 4], share := false } []) Tryz.f23 (.seq (.region []) (.seq (.seq (.region []) (.block [] [] [4] (.loop [24] [] [4] (.seq (.region []) (.seq (.inl .leaf .leaf) (.seq (.block [] [] [4] (.seq (.region []) (.seq (.region [[38]]) (.inl (.seq (.region []) .leaf) .leaf)))) (.region []))))))) (.seq (.region []) .leaf))) lim [a0] H = B23 N lim a0 H := by kernel_rfl
theorem sim23 (N : Nat) : SimF Tryz.prog 23 (G23 N) := by
  refine SimF.gen [] [] { promo := [1, 4], share := false } N (.seq (.region []) (.seq (.seq (.region []) (.block [] [] [4] (.loop [24] [] [4] (.seq (.region []) (.seq (.inl .leaf .leaf) (.seq (.block [] [] [4] (.seq (.region []) (.seq (.region [[38]]) (.inl (.seq (.region []) .leaf) .leaf)))) (.region []))))))) (.seq (.region []) .leaf))) Tryz.func23 (by kernel_rfl) (by kernel_rfl) env_nil ?_
  intro lim args H r h
  unfold G23 w1 at h
  split at h
  · exact (eq23 N lim _ H).trans h
  · simp at h
/-- besom/shape.kinds -/
def B139 (N : Nat) (lim : Nat) (shapes0 places1 : Value) (H : IHeap) : RV :=
 retK ((ibin .lss .no shapes0 (.int .i64 0)).bind fun t9 =>
 (gval false t9).bind fun w1 => grpK (bif w1 then
 ((ibin .gtr .no shapes0 (.int .i64 16)).bind fun t12 =>
 some ([t12], (H.push (.map 0 [] 0))))
 else some ([Value.tuple #[]], (H.push (.map 0 [] 0)))) fun vs1 H1 =>
 (pickK t9 (.bool true) (nthV 0 vs1)).bind fun t13 =>
 (boolK t13 fun b2 => bif b2 then
 (some (.ret (.map (some H.next)), H1))
 else
 (ilookup 0 (.int .i64 0) false H1 (.map (some H.next)) (.int .i64 1)).bind fun t16 =>
 (ibin .add .no t16 (.int .i64 1)).bind fun t17 =>
 (imapUpdate 0 lim H1 (.map (some H.next)) (.int .i64 1) t17).bind fun H2 =>
 catchK 0 (iloop (fun vs2 H3 =>
 (ibin .lss .no (nthV 0 vs2) shapes0).bind fun t20 =>
 (boolK t20 fun b3 => bif b3 then
 (catchK 1 ((ibin .add .no (.int .i64 16) (nthV 0 vs2)).bind fun t24 =>
 (ilookup 0 (.int .i64 0) false H3 (.map (some H.next)) t24).bind fun t25 =>
 (ibin .add .no t25 (.int .i64 1)).bind fun t26 =>
 (imapUpdate 0 lim H3 (.map (some H.next)) t24 t26).bind fun H4 =>
 joinK (boolK places1 fun b4 => bif b4 then
 ((ibin .add .no (.int .i64 64) (nthV 0 vs2)).bind fun t30 =>
 (ilookup 0 (.int .i64 0) false H4 (.map (some H.next)) t30).bind fun t31 =>
 (ibin .add .no t31 (.int .i64 1)).bind fun t32 =>
 (imapUpdate 0 lim H4 (.map (some H.next)) t30 t32).bind fun H5 =>
 some (.norm ([] ++ []), H5))
 else
 some (.norm ([] ++ []), H4)) fun vs3 H6 =>
 some (.norm ([] ++ []), H6)) fun vs4 H7 =>
 (ibin .add .no (nthV 0 vs2) (.int .i64 1)).bind fun t33 =>
 some (.norm ([t33] ++ []), H7))
 else
 some (.exit 0 ([] ++ []), H3))) N ([(.int .i64 0)] ++ []) H2) fun vs5 H8 =>
 some (.ret (.map (some H.next)), H8)))
def F139 (N lim : Nat) (a0 a1 : Value) (H : IHeap) : RV := B139 N lim a0 a1 H
def G139 (N : Nat) : G := w2 (F139 N)
theorem eq139 (N : Nat) (lim : Nat) (a0 a1 : Value) (H : IHeap) : ifun Tryz.prog { fn := envOf [], wr := [] } { promo := [], share := false } N (okOf Tryz.prog { promo := [], share := false } []) Tryz.f139 (.seq (.region []) (.seq (.region []) (.seq (.seq (.region [[12]]) (.inl (.seq (.region []) .leaf) .leaf)) (.seq (.region []) (.seq (.seq (.region []) (.block [] [] [] (.loop [19] [] [] (.seq (.region []) (.seq (.inl .leaf .leaf) (.seq (.block [] [] [] (.seq (.region []) (.seq (.region []) (.seq (.region []) (.join [] [] [] (.region []) .leaf))))) (.region []))))))) (.seq (.region []) .leaf)))))) lim [a0, a1] H = B139 N lim a0 a1 H := by kernel_rfl
theorem sim139 (N : Nat) : SimF Tryz.prog 139 (G139 N) := by
  refine SimF.gen [] [] { promo := [], share := false } N (.seq (.region []) (.seq (.region []) (.seq (.seq (.region [[12]]) (.inl (.seq (.region []) .leaf) .leaf)) (.seq (.region []) (.seq (.seq (.region []) (.block [] [] [] (.loop [19] [] [] (.seq (.region []) (.seq (.inl .leaf .leaf) (.seq (.block [] [] [] (.seq (.region []) (.seq (.region []) (.seq (.region []) (.join [] [] [] (.region []) .leaf))))) (.region []))))))) (.seq (.region []) .leaf)))))) Tryz.func139 (by kernel_rfl) (by kernel_rfl) env_nil ?_
  intro lim args H r h
  unfold G139 w2 at h
  split at h
  · exact (eq139 N lim _ _ H).trans h
  · simp at h
/-- besom/shape.Check -/
def B72 (N : Nat) (g139 : RF2) (lim : Nat) (l0 : Value) (H : IHeap) : RV :=
 retK ((ilenS l0).bind fun t9 =>
 (ibin .gtr .no t9 (.int .i64 16)).bind fun t10 =>
 (boolK t10 fun b1 => bif b1 then
 (some (.ret (.int .i64 1), H))
 else
 (ilenS l0).bind fun t12 =>
 callK (g139 lim t12 (.bool false) H) fun t13 H1 =>
 (ilenS l0).bind fun t15 =>
 catchK 0 (iloop (fun vs1 H2 =>
 (ibin .lss .no (nthV 0 vs1) t15).bind fun t17 =>
 (boolK t17 fun b2 => bif b2 then
 (catchK 1 ((iidx 1 l0 (nthV 0 vs1)).bind fun t18 =>
 (hload true 1 H2 t18).bind fun t19 =>
 (istore true 1 [(.slice none 0 0)] 0 t19).bind fun cs1 =>
 (iload false 1 cs1 0).bind fun t21 =>
 (ilenS t21).bind fun t22 =>
 (ibin .lss .no t22 (.int .i64 1)).bind fun t23 =>
 (gval false t23).bind fun w1 => grpK (bif w1 then
 ((iload false 1 cs1 0).bind fun t26 =>
 (ilenS t26).bind fun t27 =>
 (ibin .gtr .no t27 (.int .i64 16)).bind fun t28 =>
 some ([t28], H2))
 else some ([Value.tuple #[]], H2)) fun vs2 H3 =>
 (pickK t23 (.bool true) (nthV 0 vs2)).bind fun t29 =>
 (boolK t29 fun b4 => bif b4 then
 (some (.ret (.int .i64 1), H3))
 else
 (iload false 1 cs1 0).bind fun t31 =>
 (ilenS t31).bind fun t32 =>
 catchK 2 (iloop (fun vs3 H4 =>
 (ibin .lss .no (nthV 0 vs3) t32).bind fun t34 =>
 (boolK t34 fun b5 => bif b5 then
 (catchK 3 ((iidx 1 t31 (nthV 0 vs3)).bind fun t35 =>
 (hload false 1 H4 t35).bind fun t36 =>
 (ilookup 0 (.int .i64 0) false H4 t13 t36).bind fun t39 =>
 (ibin .eql .no t39 (.int .i64 0)).bind fun t40 =>
 (boolK t40 fun b6 => bif b6 then
 (some (.ret (.int .i64 3), H4))
 else
 some (.norm ([] ++ []), H4))) fun vs4 H5 =>
 (ibin .add .no (nthV 0 vs3) (.int .i64 1)).bind fun t41 =>
 some (.norm ([t41] ++ []), H5))
 else
 some (.exit 2 ([] ++ []), H4))) N ([(.int .i64 0)] ++ []) H3) fun vs5 H6 =>
 some (.norm ([] ++ []), H6))) fun vs6 H7 =>
 (ibin .add .no (nthV 0 vs1) (.int .i64 1)).bind fun t42 =>
 some (.norm ([t42] ++ []), H7))
 else
 some (.exit 0 ([] ++ []), H2))) N ([(.int .i64 0)] ++ []) H1) fun vs7 H8 =>
 some (.ret (.int .i64 0), H8)))
def F72 (N lim : Nat) (a0 : Value) (H : IHeap) : RV := B72 N (F139 N) lim a0 H
def G72 (N : Nat) : G := w1 (F72 N)
theorem eq72 (N : Nat) (g139 : RF2) (lim : Nat) (a0 : Value) (H : IHeap) : ifun Tryz.prog { fn := envOf [(139, Ideal.w2 g139)], wr := [] } { promo := [5], share := false } N (okOf Tryz.prog { promo := [5], share := false } []) Tryz.f72 (.seq (.region []) (.seq (.seq (.region []) (.inl (.seq (.region []) .leaf) .leaf)) (.seq (.region []) (.seq (.seq (.region []) (.block [] [] [5] (.loop [16] [] [5] (.seq (.region []) (.seq (.inl .leaf .leaf) (.seq (.block [] [] [5] (.seq (.region []) (.seq (.seq (.region [[28]]) (.inl (.seq (.region []) .leaf) .leaf)) (.seq (.region []) (.block [] [] [] (.loop [33] [] [] (.seq (.region []) (.seq (.inl .leaf .leaf) (.seq (.block [] [] [] (.seq (.region []) (.seq (.region []) (.inl (.seq (.region []) .leaf) .leaf)))) (.region [])))))))))) (.region []))))))) (.seq (.region []) .leaf))))) lim [a0] H = B72 N g139 lim a0 H := by kernel_rfl
theorem sim72 (N : Nat) : SimF Tryz.prog 72 (G72 N) := by
  refine SimF.gen [(139, G139 N)] [] { promo := [5], share := false } N (.seq (.region []) (.seq (.seq (.region []) (.inl (.seq (.region []) .leaf) .leaf)) (.seq (.region []) (.seq (.seq (.region []) (.block [] [] [5] (.loop [16] [] [5] (.seq (.region []) (.seq (.inl .leaf .leaf) (.seq (.block [] [] [5] (.seq (.region []) (.seq (.seq (.region [[28]]) (.inl (.seq (.region []) .leaf) .leaf)) (.seq (.region []) (.block [] [] [] (.loop [33] [] [] (.seq (.region []) (.seq (.inl .leaf .leaf) (.seq (.block [] [] [] (.seq (.region []) (.seq (.region []) (.inl (.seq (.region []) .leaf) .leaf)))) (.region [])))))))))) (.region []))))))) (.seq (.region []) .leaf))))) Tryz.func72 (by kernel_rfl) (by kernel_rfl) (env_cons (sim139 N) env_nil) ?_
  intro lim args H r h
  unfold G72 w1 at h
  split at h
  · exact (eq72 N (F139 N) lim _ H).trans h
  · simp at h
/-- besom/check.whole -/
def B132 (N : Nat) (g72 : RF1) (lim : Nat) (p0 : Value) (H : IHeap) : RV :=
 retK ((cellsOf true 3 p0).bind fun cs1 =>
 (iload false 1 cs1 1).bind fun t7 =>
 callK (g72 lim t7 H) fun t8 H1 =>
 (ibin .neq .no t8 (.int .i64 0)).bind fun t10 =>
 (boolK t10 fun b1 => bif b1 then
 (some (.ret t8, H1))
 else
 (iload false 1 cs1 0).bind fun t13 =>
 (ilenS t13).bind fun t14 =>
 (ibin .gtr .no t14 (.int .i64 16)).bind fun t15 =>
 (gval false t15).bind fun w1 => grpK (bif w1 then
 ((iload false 1 cs1 2).bind fun t18 =>
 (ilenS t18).bind fun t19 =>
 (ibin .lss .no t19 (.int .i64 1)).bind fun t20 =>
 some ([t20], H1))
 else some ([Value.tuple #[]], H1)) fun vs1 H2 =>
 (pickK t15 (.bool true) (nthV 0 vs1)).bind fun t21 =>
 (gval false t21).bind fun w2 => grpK (bif w2 then
 ((iload false 1 cs1 2).bind fun t24 =>
 (ilenS t24).bind fun t25 =>
 (ibin .gtr .no t25 (.int .i64 16)).bind fun t26 =>
 some ([t26], H2))
 else some ([Value.tuple #[]], H2)) fun vs2 H3 =>
 (pickK t21 (.bool true) (nthV 0 vs2)).bind fun t27 =>
 (boolK t27 fun b4 => bif b4 then
 (some (.ret (.int .i64 1), H3))
 else
 (iload false 1 cs1 0).bind fun t29 =>
 (ilenS t29).bind fun t30 =>
 catchK 0 (iloop (fun vs3 H4 =>
 (ibin .lss .no (nthV 0 vs3) t30).bind fun t32 =>
 (boolK t32 fun b5 => bif b5 then
 (catchK 1 ((iidx 1 t29 (nthV 0 vs3)).bind fun t33 =>
 (hload false 1 H4 t33).bind fun t34 =>
 (iload false 1 cs1 1).bind fun t37 =>
 (ilenS t37).bind fun t38 =>
 none) fun vs4 H5 =>
 (ibin .add .no (nthV 0 vs3) (.int .i64 1)).bind fun t41 =>
 some (.norm ([t41] ++ []), H5))
 else
 some (.exit 0 ([] ++ []), H4))) N ([(.int .i64 0)] ++ []) H3) fun vs5 H6 =>
 (iload false 1 cs1 2).bind fun t43 =>
 (iidx 5 t43 (.int .i64 0)).bind fun t44 =>
 (paddr 0 t44).bind fun t45 =>
 (hload false 1 H6 t45).bind fun t46 =>
 (ilenS t46).bind fun t47 =>
 (ibin .gtr .no t47 (.int .i64 0)).bind fun t48 =>
 (gval false t48).bind fun w3 => grpK (bif w3 then
 ((iload false 1 cs1 2).bind fun t51 =>
 (iidx 5 t51 (.int .i64 0)).bind fun t52 =>
 (paddr 1 t52).bind fun t53 =>
 (hload false 1 H6 t53).bind fun t54 =>
 (ibin .neq .no t54 (.int .i64 0)).bind fun t55 =>
 some ([t55], H6))
 else some ([Value.tuple #[]], H6)) fun vs6 H7 =>
 (pickK t48 (.bool true) (nthV 0 vs6)).bind fun t56 =>
 (boolK t56 fun b7 => bif b7 then
 (some (.ret (.int .i64 3), H7))
 else
 some (.ret (.int .i64 0), H7)))))
def F132 (N lim : Nat) (a0 : Value) (H : IHeap) : RV := B132 N (F72 N) lim a0 H
def G132 (N : Nat) : G := w1 (F132 N)
theorem eq132 (N : Nat) (g72 : RF1) (lim : Nat) (a0 : Value) (H : IHeap) : ifun Tryz.prog { fn := envOf [(72, Ideal.w1 g72)], wr := [] } { promo := [1], share := false } N (okOf Tryz.prog { promo := [1], share := false } []) Tryz.f132 (.seq (.region []) (.seq (.seq (.region []) (.seq (.region []) (.inl (.seq (.region []) .leaf) .leaf))) (.seq (.seq (.region [[20], [26]]) (.inl (.seq (.region []) .leaf) .leaf)) (.seq (.seq (.region []) (.block [] [] [] (.loop [31] [] [] (.seq (.region []) (.seq (.inl .leaf .leaf) (.seq (.block [] [] [] (.seq (.region []) (.seq (.region []) (.inl (.seq (.region []) .leaf) .leaf)))) (.region []))))))) (.seq (.seq (.region [[55]]) (.inl (.seq (.region []) .leaf) .leaf)) (.seq (.region []) .leaf)))))) lim [a0] H = B132 N g72 lim a0 H := by kernel_rfl
theorem sim132 (N : Nat) : SimF Tryz.prog 132 (G132 N) := by
  refine SimF.gen [(72, G72 N)] [] { promo := [1], share := false } N (.seq (.region []) (.seq (.seq (.region []) (.seq (.region []) (.inl (.seq (.region []) .leaf) .leaf))) (.seq (.seq (.region [[20], [26]]) (.inl (.seq (.region []) .leaf) .leaf)) (.seq (.seq (.region []) (.block [] [] [] (.loop [31] [] [] (.seq (.region []) (.seq (.inl .leaf .leaf) (.seq (.block [] [] [] (.seq (.region []) (.seq (.region []) (.inl (.seq (.region []) .leaf) .leaf)))) (.region []))))))) (.seq (.seq (.region [[55]]) (.inl (.seq (.region []) .leaf) .leaf)) (.seq (.region []) .leaf)))))) Tryz.func132 (by kernel_rfl) (by kernel_rfl) (env_cons (sim72 N) env_nil) ?_
  intro lim args H r h
  unfold G132 w1 at h
  split at h
  · exact (eq132 N (F72 N) lim _ H).trans h
  · simp at h
/-- besom/check.within -/
def B203 (N : Nat) (lim : Nat) (n0 below1 : Value) (H : IHeap) : RV :=
 retK ((ibin .geq .no n0 (.int .i64 0)).bind fun t6 =>
 (gval true t6).bind fun w1 => grpK (bif w1 then
 ((ibin .lss .no n0 below1).bind fun t10 =>
 some ([t10], H))
 else some ([Value.tuple #[]], H)) fun vs1 H1 =>
 (pickK t6 (nthV 0 vs1) (.bool false)).bind fun t11 =>
 some (.ret t11, H1))
def F203 (N lim : Nat) (a0 a1 : Value) (H : IHeap) : RV := B203 N lim a0 a1 H
def G203 (N : Nat) : G := w2 (F203 N)
theorem eq203 (N : Nat) (lim : Nat) (a0 a1 : Value) (H : IHeap) : ifun Tryz.prog { fn := envOf [], wr := [] } { promo := [], share := false } N (okOf Tryz.prog { promo := [], share := false } []) Tryz.f203 (.seq (.region []) (.seq (.region [[10]]) .leaf)) lim [a0, a1] H = B203 N lim a0 a1 H := by kernel_rfl
theorem sim203 (N : Nat) : SimF Tryz.prog 203 (G203 N) := by
  refine SimF.gen [] [] { promo := [], share := false } N (.seq (.region []) (.seq (.region [[10]]) .leaf)) Tryz.func203 (by kernel_rfl) (by kernel_rfl) env_nil ?_
  intro lim args H r h
  unfold G203 w2 at h
  split at h
  · exact (eq203 N lim _ _ H).trans h
  · simp at h
/-- besom/check.front -/
def B204 (N : Nat) (g203 : RF2) (lim : Nat) (p0 f1 : Value) (H : IHeap) : RV :=
 retK ((cellsOf true 3 p0).bind fun cs1 =>
 (cellsOf true 5 f1).bind fun cs2 =>
 (iload false 1 cs2 2).bind fun t10 =>
 (iload false 1 cs2 0).bind fun t12 =>
 (ilenS t12).bind fun t13 =>
 (ibin .lss .no t10 t13).bind fun t14 =>
 (gval false t14).bind fun w1 => grpK (bif w1 then
 ((iload false 1 cs2 2).bind fun t17 =>
 (ibin .gtr .no t17 (.int .i64 16)).bind fun t18 =>
 some ([t18], H))
 else some ([Value.tuple #[]], H)) fun vs1 H1 =>
 (pickK t14 (.bool true) (nthV 0 vs1)).bind fun t19 =>
 (gval false t19).bind fun w2 => grpK (bif w2 then
 ((iload false 1 cs2 3).bind fun t22 =>
 (ilenS t22).bind fun t23 =>
 (ibin .gtr .no t23 (.int .i64 8)).bind fun t24 =>
 some ([t24], H1))
 else some ([Value.tuple #[]], H1)) fun vs2 H2 =>
 (pickK t19 (.bool true) (nthV 0 vs2)).bind fun t25 =>
 (gval false t25).bind fun w3 => grpK (bif w3 then
 ((iload false 1 cs2 4).bind fun t28 =>
 (ilenS t28).bind fun t29 =>
 (ibin .lss .no t29 (.int .i64 1)).bind fun t30 =>
 some ([t30], H2))
 else some ([Value.tuple #[]], H2)) fun vs3 H3 =>
 (pickK t25 (.bool true) (nthV 0 vs3)).bind fun t31 =>
 (gval false t31).bind fun w4 => grpK (bif w4 then
 ((iload false 1 cs2 4).bind fun t34 =>
 (ilenS t34).bind fun t35 =>
 (ibin .gtr .no t35 (.int .i64 64)).bind fun t36 =>
 some ([t36], H3))
 else some ([Value.tuple #[]], H3)) fun vs4 H4 =>
 (pickK t31 (.bool true) (nthV 0 vs4)).bind fun t37 =>
 (boolK t37 fun b5 => bif b5 then
 (some (.ret (.int .i64 1), H4))
 else
 (iload false 1 cs2 0).bind fun t39 =>
 (ilenS t39).bind fun t40 =>
 catchK 0 (iloop (fun vs5 H5 =>
 (ibin .lss .no (nthV 0 vs5) t40).bind fun t42 =>
 (boolK t42 fun b6 => bif b6 then
 (catchK 1 ((iidx 1 t39 (nthV 0 vs5)).bind fun t43 =>
 (hload false 1 H5 t43).bind fun t44 =>
 (iload false 1 cs1 1).bind fun t47 =>
 (ilenS t47).bind fun t48 =>
 none) fun vs6 H6 =>
 (ibin .add .no (nthV 0 vs5) (.int .i64 1)).bind fun t51 =>
 some (.norm ([t51] ++ []), H6))
 else
 some (.exit 0 ([] ++ []), H5))) N ([(.int .i64 0)] ++ []) H4) fun vs7 H7 =>
 (iload false 1 cs2 1).bind fun t53 =>
 (ibin .neq .no t53 (.int .i64 0)).bind fun t54 =>
 (gval true t54).bind fun w5 => grpK (bif w5 then
 ((iload false 1 cs2 1).bind fun t57 =>
 (iload false 1 cs1 1).bind fun t59 =>
 (ilenS t59).bind fun t60 =>
 none)
 else some ([Value.tuple #[]], H7)) fun vs8 H8 =>
 (pickK t54 (nthV 0 vs8) (.bool false)).bind fun t63 =>
 (boolK t63 fun b8 => bif b8 then
 (some (.ret (.int .i64 3), H8))
 else
 (iload false 1 cs2 3).bind fun t65 =>
 (ilenS t65).bind fun t66 =>
 catchK 2 (iloop (fun vs9 H9 =>
 (ibin .lss .no (nthV 0 vs9) t66).bind fun t68 =>
 (boolK t68 fun b9 => bif b9 then
 (catchK 3 ((iidx 1 t65 (nthV 0 vs9)).bind fun t69 =>
 (hload false 1 H9 t69).bind fun t70 =>
 (iload false 1 cs1 1).bind fun t73 =>
 (ilenS t73).bind fun t74 =>
 callK (g203 lim t70 t74 H9) fun t75 H10 =>
 (iun .not t75).bind fun t76 =>
 (boolK t76 fun b10 => bif b10 then
 (some (.ret (.int .i64 4), H10))
 else
 some (.norm ([] ++ []), H10))) fun vs10 H11 =>
 (ibin .add .no (nthV 0 vs9) (.int .i64 1)).bind fun t77 =>
 some (.norm ([t77] ++ []), H11))
 else
 some (.exit 2 ([] ++ []), H9))) N ([(.int .i64 0)] ++ []) H8) fun vs11 H12 =>
 some (.ret (.int .i64 0), H12))))
def F204 (N lim : Nat) (a0 a1 : Value) (H : IHeap) : RV := B204 N (F203 N) lim a0 a1 H
def G204 (N : Nat) : G := w2 (F204 N)
theorem eq204 (N : Nat) (g203 : RF2) (lim : Nat) (a0 a1 : Value) (H : IHeap) : ifun Tryz.prog { fn := envOf [(203, Ideal.w2 g203)], wr := [] } { promo := [2, 3], share := false } N (okOf Tryz.prog { promo := [2, 3], share := false } []) Tryz.f204 (.seq (.region []) (.seq (.seq (.region [[18], [24], [30], [36]]) (.inl (.seq (.region []) .leaf) .leaf)) (.seq (.seq (.region []) (.block [] [] [] (.loop [41] [] [] (.seq (.region []) (.seq (.inl .leaf .leaf) (.seq (.block [] [] [] (.seq (.region []) (.seq (.region []) (.inl (.seq (.region []) .leaf) .leaf)))) (.region []))))))) (.seq (.seq (.region [[62]]) (.inl (.seq (.region []) .leaf) .leaf)) (.seq (.seq (.region []) (.block [] [] [] (.loop [67] [] [] (.seq (.region []) (.seq (.inl .leaf .leaf) (.seq (.block [] [] [] (.seq (.region []) (.seq (.region []) (.inl (.seq (.region []) .leaf) .leaf)))) (.region []))))))) (.seq (.region []) .leaf)))))) lim [a0, a1] H = B204 N g203 lim a0 a1 H := by kernel_rfl
theorem sim204 (N : Nat) : SimF Tryz.prog 204 (G204 N) := by
  refine SimF.gen [(203, G203 N)] [] { promo := [2, 3], share := false } N (.seq (.region []) (.seq (.seq (.region [[18], [24], [30], [36]]) (.inl (.seq (.region []) .leaf) .leaf)) (.seq (.seq (.region []) (.block [] [] [] (.loop [41] [] [] (.seq (.region []) (.seq (.inl .leaf .leaf) (.seq (.block [] [] [] (.seq (.region []) (.seq (.region []) (.inl (.seq (.region []) .leaf) .leaf)))) (.region []))))))) (.seq (.seq (.region [[62]]) (.inl (.seq (.region []) .leaf) .leaf)) (.seq (.seq (.region []) (.block [] [] [] (.loop [67] [] [] (.seq (.region []) (.seq (.inl .leaf .leaf) (.seq (.block [] [] [] (.seq (.region []) (.seq (.region []) (.inl (.seq (.region []) .leaf) .leaf)))) (.region []))))))) (.seq (.region []) .leaf)))))) Tryz.func204 (by kernel_rfl) (by kernel_rfl) (env_cons (sim203 N) env_nil) ?_
  intro lim args H r h
  unfold G204 w2 at h
  split at h
  · exact (eq204 N (F203 N) lim _ _ H).trans h
  · simp at h
/-- besom/check.code -/
def B266 (N : Nat) (lim : Nat) (p0 fn1 : Value) (H : IHeap) : RV :=
 retK ((cellsOf true 3 p0).bind fun cs1 =>
 (ibin .geq .no fn1 (.int .i64 0)).bind fun t10 =>
 (gval true t10).bind fun w1 => grpK (bif w1 then
 ((iload false 1 cs1 2).bind fun t14 =>
 (ilenS t14).bind fun t15 =>
 (ibin .lss .no fn1 t15).bind fun t16 =>
 some ([t16], (H.push (.map 3 [] 0))))
 else some ([Value.tuple #[]], (H.push (.map 3 [] 0)))) fun vs1 H1 =>
 (pickK t10 (nthV 0 vs1) (.bool false)).bind fun t17 =>
 joinK (boolK t17 fun b2 => bif b2 then
 ((iload false 1 cs1 2).bind fun t19 =>
 (iidx 5 t19 fn1).bind fun t21 =>
 (paddr 4 t21).bind fun t22 =>
 (hload false 1 H1 t22).bind fun t23 =>
 (ilenS t23).bind fun t24 =>
 catchK 0 (iloop (fun vs2 H2 =>
 (ibin .lss .no (nthV 0 vs2) t24).bind fun t26 =>
 (boolK t26 fun b3 => bif b3 then
 (catchK 1 ((iidx 4 t23 (nthV 0 vs2)).bind fun t28 =>
 (hload true 4 H2 t28).bind fun t29 =>
 (istore true 4 [(.int .i64 0), (.int .i64 0), (.int .i64 0), (.int .i64 0)] 0 t29).bind fun cs2 =>
 (istore false 1 [(.int .i64 0), (.int .i64 0)] 0 fn1).bind fun cs3 =>
 (istore false 1 cs3 1 (nthV 0 vs2)).bind fun cs4 =>
 (iload true 4 cs2 0).bind fun t34 =>
 (imapUpdate 3 lim H2 (.map (some H.next)) (.agg ⟨cs4⟩) t34).bind fun H3 =>
 some (.norm ([] ++ []), H3)) fun vs3 H4 =>
 (ibin .add .no (nthV 0 vs2) (.int .i64 1)).bind fun t35 =>
 some (.norm ([t35] ++ []), H4))
 else
 some (.exit 0 ([] ++ []), H2))) N ([(.int .i64 0)] ++ []) H1) fun vs4 H5 =>
 some (.norm ([] ++ []), H5))
 else
 some (.norm ([] ++ []), H1)) fun vs5 H6 =>
 some (.ret (.map (some H.next)), H6))
def F266 (N lim : Nat) (a0 a1 : Value) (H : IHeap) : RV := B266 N lim a0 a1 H
def G266 (N : Nat) : G := w2 (F266 N)
theorem eq266 (N : Nat) (lim : Nat) (a0 a1 : Value) (H : IHeap) : ifun Tryz.prog { fn := envOf [], wr := [] } { promo := [2, 7], share := false } N (okOf Tryz.prog { promo := [2, 7], share := false } []) Tryz.f266 (.seq (.region []) (.seq (.region []) (.seq (.seq (.region [[16]]) (.join [] [] [7] (.seq (.region []) (.block [] [] [7] (.loop [25] [] [7] (.seq (.region []) (.seq (.inl .leaf .leaf) (.seq (.block [] [] [7] (.seq (.region []) (.region []))) (.region []))))))) .leaf)) (.seq (.region []) .leaf)))) lim [a0, a1] H = B266 N lim a0 a1 H := by kernel_rfl
theorem sim266 (N : Nat) : SimF Tryz.prog 266 (G266 N) := by
  refine SimF.gen [] [] { promo := [2, 7], share := false } N (.seq (.region []) (.seq (.region []) (.seq (.seq (.region [[16]]) (.join [] [] [7] (.seq (.region []) (.block [] [] [7] (.loop [25] [] [7] (.seq (.region []) (.seq (.inl .leaf .leaf) (.seq (.block [] [] [7] (.seq (.region []) (.region []))) (.region []))))))) .leaf)) (.seq (.region []) .leaf)))) Tryz.func266 (by kernel_rfl) (by kernel_rfl) env_nil ?_
  intro lim args H r h
  unfold G266 w2 at h
  split at h
  · exact (eq266 N lim _ _ H).trans h
  · simp at h
/-- besom/instr.Uses -/
def B303 (N : Nat) (lim : Nat) (op0 : Value) (H : IHeap) : RV :=
 retK (catchK 0 ((ibin .eql .no op0 (.int .i64 1)).bind fun t7 =>
 joinK (boolK t7 fun b1 => bif b1 then
 (some (.norm ([t7] ++ []), H))
 else
 (ibin .eql .no op0 (.int .i64 2)).bind fun t8 =>
 joinK (boolK t8 fun b2 => bif b2 then
 (some (.norm ([t8] ++ []), H))
 else
 (ibin .eql .no op0 (.int .i64 10)).bind fun t9 =>
 joinK (boolK t9 fun b3 => bif b3 then
 (some (.norm ([t9] ++ []), H))
 else
 (ibin .eql .no op0 (.int .i64 11)).bind fun t10 =>
 joinK (boolK t10 fun b4 => bif b4 then
 (some (.norm ([t10] ++ []), H))
 else
 (ibin .eql .no op0 (.int .i64 12)).bind fun t11 =>
 joinK (boolK t11 fun b5 => bif b5 then
 (some (.norm ([t11] ++ []), H))
 else
 (ibin .eql .no op0 (.int .i64 13)).bind fun t12 =>
 joinK (boolK t12 fun b6 => bif b6 then
 (some (.norm ([t12] ++ []), H))
 else
 (ibin .eql .no op0 (.int .i64 16)).bind fun t13 =>
 joinK (boolK t13 fun b7 => bif b7 then
 (some (.norm ([t13] ++ []), H))
 else
 (ibin .eql .no op0 (.int .i64 17)).bind fun t14 =>
 joinK (boolK t14 fun b8 => bif b8 then
 (some (.norm ([t14] ++ []), H))
 else
 (ibin .eql .no op0 (.int .i64 18)).bind fun t15 =>
 joinK (boolK t15 fun b9 => bif b9 then
 (some (.norm ([t15] ++ []), H))
 else
 (ibin .eql .no op0 (.int .i64 25)).bind fun t16 =>
 joinK (boolK t16 fun b10 => bif b10 then
 (some (.norm ([t16] ++ []), H))
 else
 (ibin .eql .no op0 (.int .i64 26)).bind fun t17 =>
 some (.norm ([t17] ++ []), H)) fun vs1 H1 =>
 some (.norm ([(nthV 0 vs1)] ++ []), H1)) fun vs2 H2 =>
 some (.norm ([(nthV 0 vs2)] ++ []), H2)) fun vs3 H3 =>
 some (.norm ([(nthV 0 vs3)] ++ []), H3)) fun vs4 H4 =>
 some (.norm ([(nthV 0 vs4)] ++ []), H4)) fun vs5 H5 =>
 some (.norm ([(nthV 0 vs5)] ++ []), H5)) fun vs6 H6 =>
 some (.norm ([(nthV 0 vs6)] ++ []), H6)) fun vs7 H7 =>
 some (.norm ([(nthV 0 vs7)] ++ []), H7)) fun vs8 H8 =>
 some (.norm ([(nthV 0 vs8)] ++ []), H8)) fun vs9 H9 =>
 some (.norm ([(nthV 0 vs9)] ++ []), H9)) fun vs10 H10 =>
 (boolK (nthV 0 vs10) fun b11 => bif b11 then
 (some (.ret (.tuple ⟨[(.bool true), (.bool true), (.bool false)]⟩), H10))
 else
 (ibin .eql .no op0 (.int .i64 3)).bind fun t19 =>
 joinK (boolK t19 fun b12 => bif b12 then
 (some (.norm ([t19] ++ []), H10))
 else
 (ibin .eql .no op0 (.int .i64 4)).bind fun t20 =>
 joinK (boolK t20 fun b13 => bif b13 then
 (some (.norm ([t20] ++ []), H10))
 else
 (ibin .eql .no op0 (.int .i64 5)).bind fun t21 =>
 joinK (boolK t21 fun b14 => bif b14 then
 (some (.norm ([t21] ++ []), H10))
 else
 (ibin .eql .no op0 (.int .i64 6)).bind fun t22 =>
 joinK (boolK t22 fun b15 => bif b15 then
 (some (.norm ([t22] ++ []), H10))
 else
 (ibin .eql .no op0 (.int .i64 7)).bind fun t23 =>
 joinK (boolK t23 fun b16 => bif b16 then
 (some (.norm ([t23] ++ []), H10))
 else
 (ibin .eql .no op0 (.int .i64 8)).bind fun t24 =>
 joinK (boolK t24 fun b17 => bif b17 then
 (some (.norm ([t24] ++ []), H10))
 else
 (ibin .eql .no op0 (.int .i64 14)).bind fun t25 =>
 joinK (boolK t25 fun b18 => bif b18 then
 (some (.norm ([t25] ++ []), H10))
 else
 (ibin .eql .no op0 (.int .i64 15)).bind fun t26 =>
 joinK (boolK t26 fun b19 => bif b19 then
 (some (.norm ([t26] ++ []), H10))
 else
 (ibin .eql .no op0 (.int .i64 19)).bind fun t27 =>
 joinK (boolK t27 fun b20 => bif b20 then
 (some (.norm ([t27] ++ []), H10))
 else
 (ibin .eql .no op0 (.int .i64 20)).bind fun t28 =>
 joinK (boolK t28 fun b21 => bif b21 then
 (some (.norm ([t28] ++ []), H10))
 else
 (ibin .eql .no op0 (.int .i64 21)).bind fun t29 =>
 some (.norm ([t29] ++ []), H10)) fun vs11 H11 =>
 some (.norm ([(nthV 0 vs11)] ++ []), H11)) fun vs12 H12 =>
 some (.norm ([(nthV 0 vs12)] ++ []), H12)) fun vs13 H13 =>
 some (.norm ([(nthV 0 vs13)] ++ []), H13)) fun vs14 H14 =>
 some (.norm ([(nthV 0 vs14)] ++ []), H14)) fun vs15 H15 =>
 some (.norm ([(nthV 0 vs15)] ++ []), H15)) fun vs16 H16 =>
 some (.norm ([(nthV 0 vs16)] ++ []), H16)) fun vs17 H17 =>
 some (.norm ([(nthV 0 vs17)] ++ []), H17)) fun vs18 H18 =>
 some (.norm ([(nthV 0 vs18)] ++ []), H18)) fun vs19 H19 =>
 some (.norm ([(nthV 0 vs19)] ++ []), H19)) fun vs20 H20 =>
 (boolK (nthV 0 vs20) fun b22 => bif b22 then
 (some (.ret (.tuple ⟨[(.bool true), (.bool true), (.bool true)]⟩), H20))
 else
 (ibin .eql .no op0 (.int .i64 9)).bind fun t31 =>
 (boolK t31 fun b23 => bif b23 then
 (some (.ret (.tuple ⟨[(.bool false), (.bool true), (.bool false)]⟩), H20))
 else
 (ibin .eql .no op0 (.int .i64 22)).bind fun t33 =>
 joinK (boolK t33 fun b24 => bif b24 then
 (some (.norm ([t33] ++ []), H20))
 else
 (ibin .eql .no op0 (.int .i64 29)).bind fun t34 =>
 some (.norm ([t34] ++ []), H20)) fun vs21 H21 =>
 (boolK (nthV 0 vs21) fun b25 => bif b25 then
 (some (.ret (.tuple ⟨[(.bool true), (.bool false), (.bool false)]⟩), H21))
 else
 (ibin .eql .no op0 (.int .i64 23)).bind fun t36 =>
 joinK (boolK t36 fun b26 => bif b26 then
 (some (.norm ([t36] ++ []), H21))
 else
 (ibin .eql .no op0 (.int .i64 24)).bind fun t37 =>
 some (.norm ([t37] ++ []), H21)) fun vs22 H22 =>
 (boolK (nthV 0 vs22) fun b27 => bif b27 then
 (some (.ret (.tuple ⟨[(.bool false), (.bool true), (.bool true)]⟩), H22))
 else
 some (.norm ([] ++ []), H22))))))) fun vs23 H23 =>
 some (.ret (.tuple ⟨[(.bool false), (.bool false), (.bool false)]⟩), H23))
def F303 (N lim : Nat) (a0 : Value) (H : IHeap) : RV := B303 N lim a0 H
def G303 (N : Nat) : G := w1 (F303 N)
theorem eq303 (N : Nat) (lim : Nat) (a0 : Value) (H : IHeap) : ifun Tryz.prog { fn := envOf [], wr := [] } { promo := [], share := false } N (okOf Tryz.prog { promo := [], share := false } []) Tryz.f303 (.seq (.region []) (.seq (.seq (.region []) (.block [] [] [] (.seq (.seq (.region []) (.join [6] [] [] .leaf (.seq (.region []) (.join [6] [] [] .leaf (.seq (.region []) (.join [6] [] [] .leaf (.seq (.region []) (.join [6] [] [] .leaf (.seq (.region []) (.join [6] [] [] .leaf (.seq (.region []) (.join [6] [] [] .leaf (.seq (.region []) (.join [6] [] [] .leaf (.seq (.region []) (.join [6] [] [] .leaf (.seq (.region []) (.join [6] [] [] .leaf (.seq (.region []) (.join [6] [] [] .leaf (.region []))))))))))))))))))))) (.inl (.seq (.region []) .leaf) (.seq (.seq (.region []) (.join [18] [] [] .leaf (.seq (.region []) (.join [18] [] [] .leaf (.seq (.region []) (.join [18] [] [] .leaf (.seq (.region []) (.join [18] [] [] .leaf (.seq (.region []) (.join [18] [] [] .leaf (.seq (.region []) (.join [18] [] [] .leaf (.seq (.region []) (.join [18] [] [] .leaf (.seq (.region []) (.join [18] [] [] .leaf (.seq (.region []) (.join [18] [] [] .leaf (.seq (.region []) (.join [18] [] [] .leaf (.region []))))))))))))))))))))) (.inl (.seq (.region []) .leaf) (.seq (.region []) (.inl (.seq (.region []) .leaf) (.seq (.seq (.region []) (.join [32] [] [] .leaf (.region []))) (.inl (.seq (.region []) .leaf) (.seq (.seq (.region []) (.join [35] [] [] .leaf (.region []))) (.inl (.seq (.region []) .leaf) .leaf)))))))))))) (.seq (.region []) .leaf))) lim [a0] H = B303 N lim a0 H := by kernel_rfl
theorem sim303 (N : Nat) : SimF Tryz.prog 303 (G303 N) := by
  refine SimF.gen [] [] { promo := [], share := false } N (.seq (.region []) (.seq (.seq (.region []) (.block [] [] [] (.seq (.seq (.region []) (.join [6] [] [] .leaf (.seq (.region []) (.join [6] [] [] .leaf (.seq (.region []) (.join [6] [] [] .leaf (.seq (.region []) (.join [6] [] [] .leaf (.seq (.region []) (.join [6] [] [] .leaf (.seq (.region []) (.join [6] [] [] .leaf (.seq (.region []) (.join [6] [] [] .leaf (.seq (.region []) (.join [6] [] [] .leaf (.seq (.region []) (.join [6] [] [] .leaf (.seq (.region []) (.join [6] [] [] .leaf (.region []))))))))))))))))))))) (.inl (.seq (.region []) .leaf) (.seq (.seq (.region []) (.join [18] [] [] .leaf (.seq (.region []) (.join [18] [] [] .leaf (.seq (.region []) (.join [18] [] [] .leaf (.seq (.region []) (.join [18] [] [] .leaf (.seq (.region []) (.join [18] [] [] .leaf (.seq (.region []) (.join [18] [] [] .leaf (.seq (.region []) (.join [18] [] [] .leaf (.seq (.region []) (.join [18] [] [] .leaf (.seq (.region []) (.join [18] [] [] .leaf (.seq (.region []) (.join [18] [] [] .leaf (.region []))))))))))))))))))))) (.inl (.seq (.region []) .leaf) (.seq (.region []) (.inl (.seq (.region []) .leaf) (.seq (.seq (.region []) (.join [32] [] [] .leaf (.region []))) (.inl (.seq (.region []) .leaf) (.seq (.seq (.region []) (.join [35] [] [] .leaf (.region []))) (.inl (.seq (.region []) .leaf) .leaf)))))))))))) (.seq (.region []) .leaf))) Tryz.func303 (by kernel_rfl) (by kernel_rfl) env_nil ?_
  intro lim args H r h
  unfold G303 w1 at h
  split at h
  · exact (eq303 N lim _ H).trans h
  · simp at h
/-- (besom/check.look).callee -/
def B306 (N : Nat) (g203 : RF2) (lim : Nat) (l0 : Value) (H : IHeap) : RV :=
 retK ((cellsOf true 14 l0).bind fun cs1 =>
 (iload false 1 cs1 8).bind fun t6 =>
 catchK 0 ((ibin .eql .no t6 (.int .i64 21)).bind fun t8 =>
 joinK (boolK t8 fun b1 => bif b1 then
 (some (.norm ([t8] ++ []), H))
 else
 (ibin .eql .no t6 (.int .i64 23)).bind fun t9 =>
 joinK (boolK t9 fun b2 => bif b2 then
 (some (.norm ([t9] ++ []), H))
 else
 (ibin .eql .no t6 (.int .i64 24)).bind fun t10 =>
 some (.norm ([t10] ++ []), H)) fun vs1 H1 =>
 some (.norm ([(nthV 0 vs1)] ++ []), H1)) fun vs2 H2 =>
 joinK (boolK (nthV 0 vs2) fun b3 => bif b3 then
 ((iload false 1 cs1 10).bind fun t13 =>
 (iload false 1 cs1 2).bind fun t16 =>
 (ilenS t16).bind fun t17 =>
 callK (g203 lim t13 t17 H2) fun t18 H3 =>
 (boolK t18 fun b4 => bif b4 then
 ((iload false 1 cs1 2).bind fun t21 =>
 (iload false 1 cs1 10).bind fun t24 =>
 (iidx 5 t21 t24).bind fun t25 =>
 (hload true 5 H3 t25).bind fun t26 =>
 (istore true 5 [(.slice none 0 0), (.int .i64 0), (.int .i64 0), (.slice none 0 0), (.slice none 0 0)] 0 t26).bind fun cs2 =>
 (iload true 5 cs2 0).bind fun r1 =>
 some (.ret (.tuple ⟨[r1, (.bool true)]⟩), H3))
 else
 some (.norm ([] ++ [.agg ⟨[(.slice none 0 0), (.int .i64 0), (.int .i64 0), (.slice none 0 0), (.slice none 0 0)]⟩]), H3)))
 else
 some (.norm ([] ++ [.agg ⟨[(.slice none 0 0), (.int .i64 0), (.int .i64 0), (.slice none 0 0), (.slice none 0 0)]⟩]), H2)) fun vs3 H4 =>
 (aggs (nthV 0 (vs3.drop 0))).bind fun cs3 =>
 some (.norm ([] ++ [.agg ⟨cs3⟩]), H4)) fun vs4 H5 =>
 (aggs (nthV 0 (vs4.drop 0))).bind fun cs4 =>
 (istore true 5 cs4 0 (.agg ⟨[(.slice none 0 0), (.int .i64 0), (.int .i64 0), (.slice none 0 0), (.slice none 0 0)]⟩)).bind fun cs5 =>
 (iload true 5 cs5 0).bind fun r2 =>
 some (.ret (.tuple ⟨[r2, (.bool false)]⟩), H5))
def F306 (N lim : Nat) (a0 : Value) (H : IHeap) : RV := B306 N (F203 N) lim a0 H
def G306 (N : Nat) : G := w1 (F306 N)
theorem eq306 (N : Nat) (g203 : RF2) (lim : Nat) (a0 : Value) (H : IHeap) : ifun Tryz.prog { fn := envOf [(203, Ideal.w2 g203)], wr := [] } { promo := [1, 2], share := false } N (okOf Tryz.prog { promo := [1, 2], share := false } []) Tryz.f306 (.seq (.region []) (.seq (.seq (.region []) (.block [] [2] [2] (.seq (.seq (.region []) (.join [7] [] [] .leaf (.seq (.region []) (.join [7] [] [] .leaf (.region []))))) (.join [] [2] [2] (.seq (.region []) (.inl (.seq (.region []) .leaf) .leaf)) .leaf)))) (.seq (.region []) .leaf))) lim [a0] H = B306 N g203 lim a0 H := by kernel_rfl
theorem sim306 (N : Nat) : SimF Tryz.prog 306 (G306 N) := by
  refine SimF.gen [(203, G203 N)] [] { promo := [1, 2], share := false } N (.seq (.region []) (.seq (.seq (.region []) (.block [] [2] [2] (.seq (.seq (.region []) (.join [7] [] [] .leaf (.seq (.region []) (.join [7] [] [] .leaf (.region []))))) (.join [] [2] [2] (.seq (.region []) (.inl (.seq (.region []) .leaf) .leaf)) .leaf)))) (.seq (.region []) .leaf))) Tryz.func306 (by kernel_rfl) (by kernel_rfl) (env_cons (sim203 N) env_nil) ?_
  intro lim args H r h
  unfold G306 w1 at h
  split at h
  · exact (eq306 N (F203 N) lim _ H).trans h
  · simp at h
/-- (besom/check.look).quiet -/
def B304 (N : Nat) (g306 : RF1) (lim : Nat) (l0 : Value) (H : IHeap) : RV :=
 retK ((cellsOf true 14 l0).bind fun cs1 =>
 (iload true 14 cs1 0).bind fun t6 =>
 callK (g306 lim t6 H) fun t7 H1 =>
 (iextract 0 t7).bind fun t8 =>
 (iextract 1 t7).bind fun t9 =>
 (istore true 5 [(.slice none 0 0), (.int .i64 0), (.int .i64 0), (.slice none 0 0), (.slice none 0 0)] 0 t8).bind fun cs2 =>
 (iload false 1 cs1 8).bind fun t12 =>
 (ibin .eql .no t12 (.int .i64 22)).bind fun t13 =>
 (gval true t13).bind fun w1 => grpK (bif w1 then
 ((iload false 1 cs1 4).bind fun t17 =>
 (ibin .eql .no t17 (.int .i64 0)).bind fun t18 =>
 some ([t18], H1))
 else some ([Value.tuple #[]], H1)) fun vs1 H2 =>
 (pickK t13 (nthV 0 vs1) (.bool false)).bind fun t19 =>
 (gval false t19).bind fun w2 => grpK (bif w2 then
 ((iload false 1 cs1 8).bind fun t23 =>
 (ibin .eql .no t23 (.int .i64 21)).bind fun t24 =>
 some ([t24], H2))
 else some ([Value.tuple #[]], H2)) fun vs2 H3 =>
 (gval true (nthV 0 vs2)).bind fun w3 => grpK (bif w3 then
 (some ([t9], H3))
 else some ([Value.tuple #[]], H3)) fun vs3 H4 =>
 (gval false t19).bind fun w4 => grpK (bif w4 then
 ((pickK (nthV 0 vs2) (nthV 0 vs3) (.bool false)).bind fun t27 =>
 some ([t27], H4))
 else some ([Value.tuple #[]], H4)) fun vs4 H5 =>
 (gval true (nthV 0 vs4)).bind fun w5 => grpK (bif w5 then
 ((iload false 1 cs2 1).bind fun t30 =>
 (ibin .eql .no t30 (.int .i64 0)).bind fun t31 =>
 some ([t31], H5))
 else some ([Value.tuple #[]], H5)) fun vs5 H6 =>
 (gval false t19).bind fun w6 => grpK (bif w6 then
 ((pickK (nthV 0 vs4) (nthV 0 vs5) (.bool false)).bind fun t32 =>
 some ([t32], H6))
 else some ([Value.tuple #[]], H6)) fun vs6 H7 =>
 (pickK t19 (.bool true) (nthV 0 vs6)).bind fun t33 =>
 some (.ret t33, H7))
def F304 (N lim : Nat) (a0 : Value) (H : IHeap) : RV := B304 N (F306 N) lim a0 H
def G304 (N : Nat) : G := w1 (F304 N)
theorem eq304 (N : Nat) (g306 : RF1) (lim : Nat) (a0 : Value) (H : IHeap) : ifun Tryz.prog { fn := envOf [(306, Ideal.w1 g306)], wr := [] } { promo := [1, 3], share := false } N (okOf Tryz.prog { promo := [1, 3], share := false } []) Tryz.f304 (.seq (.region []) (.seq (.region []) (.seq (.region [[18], [25], [26], [28], [31], [32]]) .leaf))) lim [a0] H = B304 N g306 lim a0 H := by kernel_rfl
theorem sim304 (N : Nat) : SimF Tryz.prog 304 (G304 N) := by
  refine SimF.gen [(306, G306 N)] [] { promo := [1, 3], share := false } N (.seq (.region []) (.seq (.region []) (.seq (.region [[18], [25], [26], [28], [31], [32]]) .leaf))) Tryz.func304 (by kernel_rfl) (by kernel_rfl) (env_cons (sim306 N) env_nil) ?_
  intro lim args H r h
  unfold G304 w1 at h
  split at h
  · exact (eq304 N (F306 N) lim _ H).trans h
  · simp at h
/-- besom/instr.Known -/
def B305 (N : Nat) (lim : Nat) (op0 : Value) (H : IHeap) : RV :=
 retK ((ibin .geq .no op0 (.int .i64 0)).bind fun t4 =>
 (gval true t4).bind fun w1 => grpK (bif w1 then
 ((ibin .leq .no op0 (.int .i64 29)).bind fun t7 =>
 some ([t7], H))
 else some ([Value.tuple #[]], H)) fun vs1 H1 =>
 (pickK t4 (nthV 0 vs1) (.bool false)).bind fun t8 =>
 some (.ret t8, H1))
def F305 (N lim : Nat) (a0 : Value) (H : IHeap) : RV := B305 N lim a0 H
def G305 (N : Nat) : G := w1 (F305 N)
theorem eq305 (N : Nat) (lim : Nat) (a0 : Value) (H : IHeap) : ifun Tryz.prog { fn := envOf [], wr := [] } { promo := [], share := false } N (okOf Tryz.prog { promo := [], share := false } []) Tryz.f305 (.seq (.region []) (.seq (.region [[7]]) .leaf)) lim [a0] H = B305 N lim a0 H := by kernel_rfl
theorem sim305 (N : Nat) : SimF Tryz.prog 305 (G305 N) := by
  refine SimF.gen [] [] { promo := [], share := false } N (.seq (.region []) (.seq (.region [[7]]) .leaf)) Tryz.func305 (by kernel_rfl) (by kernel_rfl) env_nil ?_
  intro lim args H r h
  unfold G305 w1 at h
  split at h
  · exact (eq305 N lim _ H).trans h
  · simp at h
/-- (besom/check.look).form -/
def B267 (N : Nat) (g303 : RF1) (g304 : RF1) (g305 : RF1) (lim : Nat) (l0 : Value) (H : IHeap) : RV :=
 retK ((cellsOf true 14 l0).bind fun cs1 =>
 (iload false 1 cs1 8).bind fun t9 =>
 callK (g303 lim t9 H) fun t10 H1 =>
 (iextract 0 t10).bind fun t11 =>
 (iextract 1 t10).bind fun t12 =>
 (iextract 2 t10).bind fun t13 =>
 (gval true t11).bind fun w1 => grpK (bif w1 then
 ((iload true 14 cs1 0).bind fun t16 =>
 callK (g304 lim t16 H1) fun t17 H3 =>
 (iun .not t17).bind fun t18 =>
 some ([t18], H3))
 else some ([Value.tuple #[]], H1)) fun vs1 H2 =>
 (pickK t11 (nthV 0 vs1) (.bool false)).bind fun t19 =>
 (iload false 1 cs1 8).bind fun t22 =>
 callK (g305 lim t22 H2) fun t23 H4 =>
 (gval true t23).bind fun w2 => grpK (bif w2 then
 (some ([t19], H4))
 else some ([Value.tuple #[]], H4)) fun vs2 H5 =>
 (gval false (nthV 0 vs2)).bind fun w3 => grpK (bif w3 then
 ((iload false 1 cs1 9).bind fun t29 =>
 (ibin .eql .no t29 (.int .i64 0)).bind fun t30 =>
 some ([t30], H5))
 else some ([Value.tuple #[]], H5)) fun vs3 H6 =>
 (gval true t23).bind fun w4 => grpK (bif w4 then
 ((pickK (nthV 0 vs2) (.bool true) (nthV 0 vs3)).bind fun t31 =>
 some ([t31], H6))
 else some ([Value.tuple #[]], H6)) fun vs4 H7 =>
 (pickK t23 (nthV 0 vs4) (.bool false)).bind fun t32 =>
 (gval true t32).bind fun w5 => grpK (bif w5 then
 (some ([t12], H7))
 else some ([Value.tuple #[]], H7)) fun vs5 H8 =>
 (gval false (nthV 0 vs5)).bind fun w6 => grpK (bif w6 then
 ((iload false 1 cs1 10).bind fun t38 =>
 (ibin .eql .no t38 (.int .i64 0)).bind fun t39 =>
 some ([t39], H8))
 else some ([Value.tuple #[]], H8)) fun vs6 H9 =>
 (gval true t32).bind fun w7 => grpK (bif w7 then
 ((pickK (nthV 0 vs5) (.bool true) (nthV 0 vs6)).bind fun t40 =>
 some ([t40], H9))
 else some ([Value.tuple #[]], H9)) fun vs7 H10 =>
 (pickK t32 (nthV 0 vs7) (.bool false)).bind fun t41 =>
 (gval true t41).bind fun w8 => grpK (bif w8 then
 (some ([t13], H10))
 else some ([Value.tuple #[]], H10)) fun vs8 H11 =>
 (gval false (nthV 0 vs8)).bind fun w9 => grpK (bif w9 then
 ((iload false 1 cs1 11).bind fun t47 =>
 (ibin .eql .no t47 (.int .i64 0)).bind fun t48 =>
 some ([t48], H11))
 else some ([Value.tuple #[]], H11)) fun vs9 H12 =>
 (gval true t41).bind fun w10 => grpK (bif w10 then
 ((pickK (nthV 0 vs8) (.bool true) (nthV 0 vs9)).bind fun t49 =>
 some ([t49], H12))
 else some ([Value.tuple #[]], H12)) fun vs10 H13 =>
 (pickK t41 (nthV 0 vs10) (.bool false)).bind fun t50 =>
 some (.ret t50, H13))
def F267 (N lim : Nat) (a0 : Value) (H : IHeap) : RV := B267 N (F303 N) (F304 N) (F305 N) lim a0 H
def G267 (N : Nat) : G := w1 (F267 N)
theorem eq267 (N : Nat) (g303 : RF1) (g304 : RF1) (g305 : RF1) (lim : Nat) (a0 : Value) (H : IHeap) : ifun Tryz.prog { fn := envOf [(303, Ideal.w1 g303), (304, Ideal.w1 g304), (305, Ideal.w1 g305)], wr := [] } { promo := [1], share := false } N (okOf Tryz.prog { promo := [1], share := false } []) Tryz.f267 (.seq (.region []) (.seq (.region []) (.seq (.region [[18]]) (.seq (.region [[26], [30], [31], [35], [39], [40], [44], [48], [49]]) .leaf)))) lim [a0] H = B267 N g303 g304 g305 lim a0 H := by kernel_rfl
theorem sim267 (N : Nat) : SimF Tryz.prog 267 (G267 N) := by
  refine SimF.gen [(303, G303 N), (304, G304 N), (305, G305 N)] [] { promo := [1], share := false } N (.seq (.region []) (.seq (.region []) (.seq (.region [[18]]) (.seq (.region [[26], [30], [31], [35], [39], [40], [44], [48], [49]]) .leaf)))) Tryz.func267 (by kernel_rfl) (by kernel_rfl) (env_cons (sim303 N) (env_cons (sim304 N) (env_cons (sim305 N) env_nil))) ?_
  intro lim args H r h
  unfold G267 w1 at h
  split at h
  · exact (eq267 N (F303 N) (F304 N) (F305 N) lim _ H).trans h
  · simp at h
/-- (besom/check.look).things -/
def B268 (N : Nat) (g203 : RF2) (lim : Nat) (l0 : Value) (H : IHeap) : RV :=
 retK ((cellsOf true 14 l0).bind fun cs1 =>
 (iload false 1 cs1 8).bind fun t5 =>
 catchK 0 ((ibin .eql .no t5 (.int .i64 9)).bind fun t7 =>
 joinK (boolK t7 fun b1 => bif b1 then
 (some (.norm ([t7] ++ []), H))
 else
 (ibin .eql .no t5 (.int .i64 10)).bind fun t8 =>
 some (.norm ([t8] ++ []), H)) fun vs1 H1 =>
 (boolK (nthV 0 vs1) fun b2 => bif b2 then
 ((iload false 1 cs1 10).bind fun t11 =>
 (iload false 1 cs1 7).bind fun t14 =>
 (ilenS t14).bind fun t15 =>
 callK (g203 lim t11 t15 H1) fun t16 H2 =>
 some (.ret t16, H2))
 else
 (ibin .eql .no t5 (.int .i64 21)).bind fun t18 =>
 joinK (boolK t18 fun b3 => bif b3 then
 (some (.norm ([t18] ++ []), H1))
 else
 (ibin .eql .no t5 (.int .i64 23)).bind fun t19 =>
 joinK (boolK t19 fun b4 => bif b4 then
 (some (.norm ([t19] ++ []), H1))
 else
 (ibin .eql .no t5 (.int .i64 24)).bind fun t20 =>
 some (.norm ([t20] ++ []), H1)) fun vs2 H3 =>
 some (.norm ([(nthV 0 vs2)] ++ []), H3)) fun vs3 H4 =>
 (boolK (nthV 0 vs3) fun b5 => bif b5 then
 ((iload false 1 cs1 10).bind fun t23 =>
 (iload false 1 cs1 2).bind fun t26 =>
 (ilenS t26).bind fun t27 =>
 callK (g203 lim t23 t27 H4) fun t28 H5 =>
 some (.ret t28, H5))
 else
 (ibin .eql .no t5 (.int .i64 13)).bind fun t30 =>
 joinK (boolK t30 fun b6 => bif b6 then
 (some (.norm ([t30] ++ []), H4))
 else
 (ibin .eql .no t5 (.int .i64 11)).bind fun t31 =>
 some (.norm ([t31] ++ []), H4)) fun vs4 H6 =>
 (boolK (nthV 0 vs4) fun b7 => bif b7 then
 ((iload false 1 cs1 10).bind fun t34 =>
 (iload false 1 cs1 1).bind fun t37 =>
 (ilenS t37).bind fun t38 =>
 callK (g203 lim t34 t38 H6) fun t39 H7 =>
 some (.ret t39, H7))
 else
 (ibin .eql .no t5 (.int .i64 16)).bind fun t41 =>
 (boolK t41 fun b8 => bif b8 then
 ((iload false 1 cs1 10).bind fun t44 =>
 (iload false 1 cs1 0).bind fun t47 =>
 (ilenS t47).bind fun t48 =>
 callK (g203 lim t44 t48 H6) fun t49 H8 =>
 some (.ret t49, H8))
 else
 (ibin .eql .no t5 (.int .i64 17)).bind fun t51 =>
 (boolK t51 fun b9 => bif b9 then
 ((iload false 1 cs1 9).bind fun t54 =>
 (iload false 1 cs1 0).bind fun t57 =>
 (ilenS t57).bind fun t58 =>
 callK (g203 lim t54 t58 H6) fun t59 H9 =>
 some (.ret t59, H9))
 else
 (ibin .eql .no t5 (.int .i64 18)).bind fun t61 =>
 (boolK t61 fun b10 => bif b10 then
 ((iload false 1 cs1 10).bind fun t64 =>
 (iload false 1 cs1 6).bind fun t67 =>
 (ilenS t67).bind fun t68 =>
 callK (g203 lim t64 t68 H6) fun t69 H10 =>
 some (.ret t69, H10))
 else
 (ibin .eql .no t5 (.int .i64 14)).bind fun t71 =>
 joinK (boolK t71 fun b11 => bif b11 then
 (some (.norm ([t71] ++ []), H6))
 else
 (ibin .eql .no t5 (.int .i64 19)).bind fun t72 =>
 some (.norm ([t72] ++ []), H6)) fun vs5 H11 =>
 (boolK (nthV 0 vs5) fun b12 => bif b12 then
 ((iload false 1 cs1 11).bind fun t75 =>
 callK (g203 lim t75 (.int .i64 16) H11) fun t76 H12 =>
 some (.ret t76, H12))
 else
 (ibin .eql .no t5 (.int .i64 15)).bind fun t78 =>
 joinK (boolK t78 fun b13 => bif b13 then
 (some (.norm ([t78] ++ []), H11))
 else
 (ibin .eql .no t5 (.int .i64 20)).bind fun t79 =>
 some (.norm ([t79] ++ []), H11)) fun vs6 H13 =>
 (boolK (nthV 0 vs6) fun b14 => bif b14 then
 ((iload false 1 cs1 10).bind fun t82 =>
 callK (g203 lim t82 (.int .i64 16) H13) fun t83 H14 =>
 some (.ret t83, H14))
 else
 some (.norm ([] ++ []), H13)))))))))) fun vs7 H15 =>
 some (.ret (.bool true), H15))
def F268 (N lim : Nat) (a0 : Value) (H : IHeap) : RV := B268 N (F203 N) lim a0 H
def G268 (N : Nat) : G := w1 (F268 N)
theorem eq268 (N : Nat) (g203 : RF2) (lim : Nat) (a0 : Value) (H : IHeap) : ifun Tryz.prog { fn := envOf [(203, Ideal.w2 g203)], wr := [] } { promo := [1], share := false } N (okOf Tryz.prog { promo := [1], share := false } []) Tryz.f268 (.seq (.region []) (.seq (.seq (.region []) (.block [] [] [] (.seq (.seq (.region []) (.join [6] [] [] .leaf (.region []))) (.inl (.seq (.region []) .leaf) (.seq (.seq (.region []) (.join [17] [] [] .leaf (.seq (.region []) (.join [17] [] [] .leaf (.region []))))) (.inl (.seq (.region []) .leaf) (.seq (.seq (.region []) (.join [29] [] [] .leaf (.region []))) (.inl (.seq (.region []) .leaf) (.seq (.region []) (.inl (.seq (.region []) .leaf) (.seq (.region []) (.inl (.seq (.region []) .leaf) (.seq (.region []) (.inl (.seq (.region []) .leaf) (.seq (.seq (.region []) (.join [70] [] [] .leaf (.region []))) (.inl (.seq (.region []) .leaf) (.seq (.seq (.region []) (.join [77] [] [] .leaf (.region []))) (.inl (.seq (.region []) .leaf) .leaf)))))))))))))))))) (.seq (.region []) .leaf))) lim [a0] H = B268 N g203 lim a0 H := by kernel_rfl
theorem sim268 (N : Nat) : SimF Tryz.prog 268 (G268 N) := by
  refine SimF.gen [(203, G203 N)] [] { promo := [1], share := false } N (.seq (.region []) (.seq (.seq (.region []) (.block [] [] [] (.seq (.seq (.region []) (.join [6] [] [] .leaf (.region []))) (.inl (.seq (.region []) .leaf) (.seq (.seq (.region []) (.join [17] [] [] .leaf (.seq (.region []) (.join [17] [] [] .leaf (.region []))))) (.inl (.seq (.region []) .leaf) (.seq (.seq (.region []) (.join [29] [] [] .leaf (.region []))) (.inl (.seq (.region []) .leaf) (.seq (.region []) (.inl (.seq (.region []) .leaf) (.seq (.region []) (.inl (.seq (.region []) .leaf) (.seq (.region []) (.inl (.seq (.region []) .leaf) (.seq (.seq (.region []) (.join [70] [] [] .leaf (.region []))) (.inl (.seq (.region []) .leaf) (.seq (.seq (.region []) (.join [77] [] [] .leaf (.region []))) (.inl (.seq (.region []) .leaf) .leaf)))))))))))))))))) (.seq (.region []) .leaf))) Tryz.func268 (by kernel_rfl) (by kernel_rfl) (env_cons (sim203 N) env_nil) ?_
  intro lim args H r h
  unfold G268 w1 at h
  split at h
  · exact (eq268 N (F203 N) lim _ H).trans h
  · simp at h
/-- besom/instr.Writes -/
def B209 (N : Nat) (lim : Nat) (i0 : Value) (H : IHeap) : RV :=
 retK ((cellsOf true 4 i0).bind fun cs1 =>
 (iload false 1 cs1 0).bind fun t5 =>
 catchK 0 ((ibin .eql .no t5 (.int .i64 1)).bind fun t7 =>
 joinK (boolK t7 fun b1 => bif b1 then
 (some (.norm ([t7] ++ []), H))
 else
 (ibin .eql .no t5 (.int .i64 2)).bind fun t8 =>
 joinK (boolK t8 fun b2 => bif b2 then
 (some (.norm ([t8] ++ []), H))
 else
 (ibin .eql .no t5 (.int .i64 3)).bind fun t9 =>
 joinK (boolK t9 fun b3 => bif b3 then
 (some (.norm ([t9] ++ []), H))
 else
 (ibin .eql .no t5 (.int .i64 4)).bind fun t10 =>
 joinK (boolK t10 fun b4 => bif b4 then
 (some (.norm ([t10] ++ []), H))
 else
 (ibin .eql .no t5 (.int .i64 5)).bind fun t11 =>
 joinK (boolK t11 fun b5 => bif b5 then
 (some (.norm ([t11] ++ []), H))
 else
 (ibin .eql .no t5 (.int .i64 6)).bind fun t12 =>
 joinK (boolK t12 fun b6 => bif b6 then
 (some (.norm ([t12] ++ []), H))
 else
 (ibin .eql .no t5 (.int .i64 7)).bind fun t13 =>
 joinK (boolK t13 fun b7 => bif b7 then
 (some (.norm ([t13] ++ []), H))
 else
 (ibin .eql .no t5 (.int .i64 8)).bind fun t14 =>
 joinK (boolK t14 fun b8 => bif b8 then
 (some (.norm ([t14] ++ []), H))
 else
 (ibin .eql .no t5 (.int .i64 11)).bind fun t15 =>
 joinK (boolK t15 fun b9 => bif b9 then
 (some (.norm ([t15] ++ []), H))
 else
 (ibin .eql .no t5 (.int .i64 12)).bind fun t16 =>
 joinK (boolK t16 fun b10 => bif b10 then
 (some (.norm ([t16] ++ []), H))
 else
 (ibin .eql .no t5 (.int .i64 13)).bind fun t17 =>
 joinK (boolK t17 fun b11 => bif b11 then
 (some (.norm ([t17] ++ []), H))
 else
 (ibin .eql .no t5 (.int .i64 14)).bind fun t18 =>
 joinK (boolK t18 fun b12 => bif b12 then
 (some (.norm ([t18] ++ []), H))
 else
 (ibin .eql .no t5 (.int .i64 16)).bind fun t19 =>
 joinK (boolK t19 fun b13 => bif b13 then
 (some (.norm ([t19] ++ []), H))
 else
 (ibin .eql .no t5 (.int .i64 18)).bind fun t20 =>
 joinK (boolK t20 fun b14 => bif b14 then
 (some (.norm ([t20] ++ []), H))
 else
 (ibin .eql .no t5 (.int .i64 19)).bind fun t21 =>
 joinK (boolK t21 fun b15 => bif b15 then
 (some (.norm ([t21] ++ []), H))
 else
 (ibin .eql .no t5 (.int .i64 21)).bind fun t22 =>
 joinK (boolK t22 fun b16 => bif b16 then
 (some (.norm ([t22] ++ []), H))
 else
 (ibin .eql .no t5 (.int .i64 26)).bind fun t23 =>
 some (.norm ([t23] ++ []), H)) fun vs1 H1 =>
 some (.norm ([(nthV 0 vs1)] ++ []), H1)) fun vs2 H2 =>
 some (.norm ([(nthV 0 vs2)] ++ []), H2)) fun vs3 H3 =>
 some (.norm ([(nthV 0 vs3)] ++ []), H3)) fun vs4 H4 =>
 some (.norm ([(nthV 0 vs4)] ++ []), H4)) fun vs5 H5 =>
 some (.norm ([(nthV 0 vs5)] ++ []), H5)) fun vs6 H6 =>
 some (.norm ([(nthV 0 vs6)] ++ []), H6)) fun vs7 H7 =>
 some (.norm ([(nthV 0 vs7)] ++ []), H7)) fun vs8 H8 =>
 some (.norm ([(nthV 0 vs8)] ++ []), H8)) fun vs9 H9 =>
 some (.norm ([(nthV 0 vs9)] ++ []), H9)) fun vs10 H10 =>
 some (.norm ([(nthV 0 vs10)] ++ []), H10)) fun vs11 H11 =>
 some (.norm ([(nthV 0 vs11)] ++ []), H11)) fun vs12 H12 =>
 some (.norm ([(nthV 0 vs12)] ++ []), H12)) fun vs13 H13 =>
 some (.norm ([(nthV 0 vs13)] ++ []), H13)) fun vs14 H14 =>
 some (.norm ([(nthV 0 vs14)] ++ []), H14)) fun vs15 H15 =>
 some (.norm ([(nthV 0 vs15)] ++ []), H15)) fun vs16 H16 =>
 (boolK (nthV 0 vs16) fun b17 => bif b17 then
 ((iload false 1 cs1 1).bind fun t25 =>
 some (.ret (.tuple ⟨[t25, (.bool true)]⟩), H16))
 else
 some (.norm ([] ++ []), H16))) fun vs17 H17 =>
 some (.ret (.tuple ⟨[(.int .i64 0), (.bool false)]⟩), H17))
def F209 (N lim : Nat) (a0 : Value) (H : IHeap) : RV := B209 N lim a0 H
def G209 (N : Nat) : G := w1 (F209 N)
theorem eq209 (N : Nat) (lim : Nat) (a0 : Value) (H : IHeap) : ifun Tryz.prog { fn := envOf [], wr := [] } { promo := [1], share := false } N (okOf Tryz.prog { promo := [1], share := false } []) Tryz.f209 (.seq (.region []) (.seq (.seq (.region []) (.block [] [] [] (.seq (.seq (.region []) (.join [6] [] [] .leaf (.seq (.region []) (.join [6] [] [] .leaf (.seq (.region []) (.join [6] [] [] .leaf (.seq (.region []) (.join [6] [] [] .leaf (.seq (.region []) (.join [6] [] [] .leaf (.seq (.region []) (.join [6] [] [] .leaf (.seq (.region []) (.join [6] [] [] .leaf (.seq (.region []) (.join [6] [] [] .leaf (.seq (.region []) (.join [6] [] [] .leaf (.seq (.region []) (.join [6] [] [] .leaf (.seq (.region []) (.join [6] [] [] .leaf (.seq (.region []) (.join [6] [] [] .leaf (.seq (.region []) (.join [6] [] [] .leaf (.seq (.region []) (.join [6] [] [] .leaf (.seq (.region []) (.join [6] [] [] .leaf (.seq (.region []) (.join [6] [] [] .leaf (.region []))))))))))))))))))))))))))))))))) (.inl (.seq (.region []) .leaf) .leaf)))) (.seq (.region []) .leaf))) lim [a0] H = B209 N lim a0 H := by kernel_rfl
theorem sim209 (N : Nat) : SimF Tryz.prog 209 (G209 N) := by
  refine SimF.gen [] [] { promo := [1], share := false } N (.seq (.region []) (.seq (.seq (.region []) (.block [] [] [] (.seq (.seq (.region []) (.join [6] [] [] .leaf (.seq (.region []) (.join [6] [] [] .leaf (.seq (.region []) (.join [6] [] [] .leaf (.seq (.region []) (.join [6] [] [] .leaf (.seq (.region []) (.join [6] [] [] .leaf (.seq (.region []) (.join [6] [] [] .leaf (.seq (.region []) (.join [6] [] [] .leaf (.seq (.region []) (.join [6] [] [] .leaf (.seq (.region []) (.join [6] [] [] .leaf (.seq (.region []) (.join [6] [] [] .leaf (.seq (.region []) (.join [6] [] [] .leaf (.seq (.region []) (.join [6] [] [] .leaf (.seq (.region []) (.join [6] [] [] .leaf (.seq (.region []) (.join [6] [] [] .leaf (.seq (.region []) (.join [6] [] [] .leaf (.seq (.region []) (.join [6] [] [] .leaf (.region []))))))))))))))))))))))))))))))))) (.inl (.seq (.region []) .leaf) .leaf)))) (.seq (.region []) .leaf))) Tryz.func209 (by kernel_rfl) (by kernel_rfl) env_nil ?_
  intro lim args H r h
  unfold G209 w1 at h
  split at h
  · exact (eq209 N lim _ H).trans h
  · simp at h
/-- slices.Index[[]int,int] -/
def B212 (N : Nat) (lim : Nat) (s0 v1 : Value) (H : IHeap) : RV :=
 retK ((ilenS s0).bind fun t7 =>
 catchK 0 (iloop (fun vs1 H1 =>
 (ibin .lss .no (nthV 0 vs1) t7).bind fun t9 =>
 (boolK t9 fun b1 => bif b1 then
 (catchK 1 ((iidx 1 s0 (nthV 0 vs1)).bind fun t14 =>
 (hload false 1 H1 t14).bind fun t15 =>
 (ibin .eql .no v1 t15).bind fun t16 =>
 (boolK t16 fun b2 => bif b2 then
 (some (.ret (nthV 0 vs1), H1))
 else
 some (.norm ([] ++ []), H1))) fun vs2 H2 =>
 (ibin .add .no (nthV 0 vs1) (.int .i64 1)).bind fun t18 =>
 some (.norm ([t18] ++ []), H2))
 else
 some (.exit 0 ([] ++ []), H1))) N ([(.int .i64 0)] ++ []) H) fun vs3 H3 =>
 some (.ret (.int .i64 (-1)), H3))
def F212 (N lim : Nat) (a0 a1 : Value) (H : IHeap) : RV := B212 N lim a0 a1 H
def G212 (N : Nat) : G := w2 (F212 N)
theorem eq212 (N : Nat) (lim : Nat) (a0 a1 : Value) (H : IHeap) : ifun Tryz.prog { fn := envOf [], wr := [] } { promo := [], share := false } N (okOf Tryz.prog { promo := [], share := false } []) Tryz.f212 (.seq (.region []) (.seq (.seq (.region []) (.block [] [] [] (.loop [8] [] [] (.seq (.region []) (.seq (.inl .leaf .leaf) (.seq (.block [] [] [] (.seq (.region []) (.seq (.region []) (.inl (.seq (.region []) .leaf) .leaf)))) (.region []))))))) (.seq (.region []) .leaf))) lim [a0, a1] H = B212 N lim a0 a1 H := by kernel_rfl
theorem sim212 (N : Nat) : SimF Tryz.prog 212 (G212 N) := by
  refine SimF.gen [] [] { promo := [], share := false } N (.seq (.region []) (.seq (.seq (.region []) (.block [] [] [] (.loop [8] [] [] (.seq (.region []) (.seq (.inl .leaf .leaf) (.seq (.block [] [] [] (.seq (.region []) (.seq (.region []) (.inl (.seq (.region []) .leaf) .leaf)))) (.region []))))))) (.seq (.region []) .leaf))) Tryz.func212 (by kernel_rfl) (by kernel_rfl) env_nil ?_
  intro lim args H r h
  unfold G212 w2 at h
  split at h
  · exact (eq212 N lim _ _ H).trans h
  · simp at h
/-- slices.Contains[[]int,int] -/
def B137 (N : Nat) (g212 : RF2) (lim : Nat) (s0 v1 : Value) (H : IHeap) : RV :=
 retK (callK (g212 lim s0 v1 H) fun t7 H1 =>
 (ibin .geq .no t7 (.int .i64 0)).bind fun t8 =>
 some (.ret t8, H1))
def F137 (N lim : Nat) (a0 a1 : Value) (H : IHeap) : RV := B137 N (F212 N) lim a0 a1 H
def G137 (N : Nat) : G := w2 (F137 N)
theorem eq137 (N : Nat) (g212 : RF2) (lim : Nat) (a0 a1 : Value) (H : IHeap) : ifun Tryz.prog { fn := envOf [(212, Ideal.w2 g212)], wr := [] } { promo := [], share := false } N (okOf Tryz.prog { promo := [], share := false } []) Tryz.f137 (.seq (.region []) (.seq (.region []) .leaf)) lim [a0, a1] H = B137 N g212 lim a0 a1 H := by kernel_rfl
theorem sim137 (N : Nat) : SimF Tryz.prog 137 (G137 N) := by
  refine SimF.gen [(212, G212 N)] [] { promo := [], share := false } N (.seq (.region []) (.seq (.region []) .leaf)) Tryz.func137 (by kernel_rfl) (by kernel_rfl) (env_cons (sim212 N) env_nil) ?_
  intro lim args H r h
  unfold G137 w2 at h
  split at h
  · exact (eq137 N (F212 N) lim _ _ H).trans h
  · simp at h
end Go.Ideal
