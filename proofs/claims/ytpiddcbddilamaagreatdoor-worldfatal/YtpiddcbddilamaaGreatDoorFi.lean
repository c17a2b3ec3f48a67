/- This text proves no statement of the seat: it says what functions of the program do on the ideal machine, part 8. By program (emitall.py). -/
import Derived.Test.YtpiddcbddilamaaGreatDoorFh
namespace Go.Ideal
open Go.Proofs
set_option maxRecDepth 100000
set_option linter.unusedVariables false
/-- besom/besomlaw24.Pair -/
def B6 (N : Nat) (g11 : RF2) (g13 : RF1) (g14 : RF1) (g15 : RF3) (lim : Nat) (p0 c1 : Value) (H : IHeap) : RV :=
 retK ((cellsOf true 3 p0).bind fun cs1 =>
 (cellsOf true 5 c1).bind fun cs2 =>
 (iload true 3 cs1 0).bind fun t16 =>
 (iload true 5 cs2 0).bind fun t17 =>
 callK (g11 lim t16 t17 H) fun t18 H1 =>
 (iextract 0 t18).bind fun t19 =>
 (iextract 1 t18).bind fun t20 =>
 (iextract 2 t18).bind fun t21 =>
 (istore true 2 [(.int .i64 0), (.int .i64 0)] 0 t21).bind fun cs3 =>
 (iload true 5 cs2 0).bind fun t22 =>
 callK (g13 lim t22 H1) fun t23 H2 =>
 (iun .not t23).bind fun t24 =>
 (boolK t24 fun b1 => bif b1 then
 ((ibin .eql .ptr t19 (.pointer none)).bind fun t26 =>
 (gval true t26).bind fun w1 => grpK (bif w1 then
 ((ibin .eql .no t20 (.int .i64 1)).bind fun t29 =>
 some ([t29], H2))
 else some ([Value.tuple #[]], H2)) fun vs1 H3 =>
 (pickK t26 (nthV 0 vs1) (.bool false)).bind fun t30 =>
 (gval true t30).bind fun w2 => grpK (bif w2 then
 ((iload true 2 cs3 0).bind fun t32 =>
 (ibin .eql (.flat [false, false]) t32 (.agg ⟨[(.int .i64 0), (.int .i64 0)]⟩)).bind fun t34 =>
 some ([t34], H3))
 else some ([Value.tuple #[]], H3)) fun vs2 H4 =>
 (pickK t30 (nthV 0 vs2) (.bool false)).bind fun t35 =>
 some (.ret (.tuple ⟨[(.pointer none), (.pointer none), t35]⟩), H4))
 else
 (iload true 3 cs1 0).bind fun t37 =>
 callK (g14 lim t37 H2) fun t38 H5 =>
 (iextract 0 t38).bind fun t39 =>
 (iextract 1 t38).bind fun t40 =>
 (iextract 2 t38).bind fun t41 =>
 (iextract 3 t38).bind fun t42 =>
 (ibin .neq .no t40 (.int .i64 0)).bind fun t44 =>
 (boolK t44 fun b4 => bif b4 then
 ((ibin .eql .ptr t19 (.pointer none)).bind fun t46 =>
 (gval true t46).bind fun w3 => grpK (bif w3 then
 ((ibin .eql .no t20 t40).bind fun t50 =>
 some ([t50], H5))
 else some ([Value.tuple #[]], H5)) fun vs3 H6 =>
 (pickK t46 (nthV 0 vs3) (.bool false)).bind fun t51 =>
 (gval true t51).bind fun w4 => grpK (bif w4 then
 ((iload true 2 cs3 0).bind fun t53 =>
 (istore false 1 [(.int .i64 0), (.int .i64 0)] 0 t41).bind fun cs4 =>
 (istore false 1 cs4 1 t42).bind fun cs5 =>
 (ibin .eql (.flat [false, false]) t53 (.agg ⟨cs5⟩)).bind fun t57 =>
 some ([t57], H6))
 else some ([Value.tuple #[]], H6)) fun vs4 H7 =>
 (pickK t51 (nthV 0 vs4) (.bool false)).bind fun t58 =>
 some (.ret (.tuple ⟨[(.pointer none), (.pointer none), t58]⟩), H7))
 else
 (iload true 3 cs1 0).bind fun t59 =>
 (iload false 1 cs2 2).bind fun t62 =>
 callK (g15 lim t59 t39 t62 H5) fun t63 H8 =>
 (ibin .eql .ptr t63 (.pointer none)).bind fun t65 =>
 (boolK t65 fun b7 => bif b7 then
 ((ibin .eql .ptr t19 (.pointer none)).bind fun t67 =>
 (gval true t67).bind fun w5 => grpK (bif w5 then
 ((ibin .eql .no t20 (.int .i64 5)).bind fun t70 =>
 some ([t70], H8))
 else some ([Value.tuple #[]], H8)) fun vs5 H9 =>
 (pickK t67 (nthV 0 vs5) (.bool false)).bind fun t71 =>
 some (.ret (.tuple ⟨[(.pointer none), (.pointer none), t71]⟩), H9))
 else
 (ibin .neq .ptr t19 (.pointer none)).bind fun t75 =>
 (gval true t75).bind fun w6 => grpK (bif w6 then
 ((ibin .eql .no t20 (.int .i64 0)).bind fun t78 =>
 some ([t78], H8))
 else some ([Value.tuple #[]], H8)) fun vs6 H10 =>
 (pickK t75 (nthV 0 vs6) (.bool false)).bind fun t79 =>
 (gval true t79).bind fun w7 => grpK (bif w7 then
 ((iload true 2 cs3 0).bind fun t81 =>
 (ibin .eql (.flat [false, false]) t81 (.agg ⟨[(.int .i64 0), (.int .i64 0)]⟩)).bind fun t83 =>
 some ([t83], H10))
 else some ([Value.tuple #[]], H10)) fun vs7 H11 =>
 (pickK t79 (nthV 0 vs7) (.bool false)).bind fun t84 =>
 some (.ret (.tuple ⟨[t19, t63, t84]⟩), H11)))))
def F6 (N lim : Nat) (a0 a1 : Value) (H : IHeap) : RV := B6 N (F11 N) (F13 N) (F14 N) (F15 N) lim a0 a1 H
def G6 (N : Nat) : G := w2 (F6 N)
theorem eq6 (N : Nat) (g11 : RF2) (g13 : RF1) (g14 : RF1) (g15 : RF3) (lim : Nat) (a0 a1 : Value) (H : IHeap) : ifun Tryz.prog { fn := envOf [(11, Ideal.w2 g11), (13, Ideal.w1 g13), (14, Ideal.w1 g14), (15, Ideal.w3 g15)], wr := [] } { promo := [2, 3, 9], share := false } N (okOf Tryz.prog { promo := [2, 3, 9], share := false } []) Tryz.f6 (.seq (.region []) (.seq (.region []) (.seq (.seq (.region []) (.inl (.seq (.region [[29], [34]]) .leaf) .leaf)) (.seq (.region []) (.seq (.seq (.region []) (.inl (.seq (.region [[50], [57]]) .leaf) .leaf)) (.seq (.region []) (.seq (.seq (.region []) (.inl (.seq (.region [[70]]) .leaf) .leaf)) (.seq (.region [[78], [83]]) .leaf)))))))) lim [a0, a1] H = B6 N g11 g13 g14 g15 lim a0 a1 H := by kernel_rfl
theorem sim6 (N : Nat) : SimF Tryz.prog 6 (G6 N) := by
  refine SimF.gen [(11, G11 N), (13, G13 N), (14, G14 N), (15, G15 N)] [] { promo := [2, 3, 9], share := false } N (.seq (.region []) (.seq (.region []) (.seq (.seq (.region []) (.inl (.seq (.region [[29], [34]]) .leaf) .leaf)) (.seq (.region []) (.seq (.seq (.region []) (.inl (.seq (.region [[50], [57]]) .leaf) .leaf)) (.seq (.region []) (.seq (.seq (.region []) (.inl (.seq (.region [[70]]) .leaf) .leaf)) (.seq (.region [[78], [83]]) .leaf)))))))) Tryz.func6 (by kernel_rfl) (by kernel_rfl) (env_cons (sim11 N) (env_cons (sim13 N) (env_cons (sim14 N) (env_cons (sim15 N) env_nil)))) ?_
  intro lim args H r h
  unfold G6 w2 at h
  split at h
  · exact (eq6 N (F11 N) (F13 N) (F14 N) (F15 N) lim _ _ H).trans h
  · simp at h
/-- (*besom/world.World).Code -/
def B10 (N : Nat) (g16 : RF1) (lim : Nat) (w0 : Value) (H : IHeap) : RV :=
 retK (callK (g16 lim w0 H) fun t4 H1 =>
 (boolK t4 fun b1 => bif b1 then
 (some (.ret (.int .i64 0), H1))
 else
 (inilc w0).bind fun t6 =>
 (paddr 21 t6).bind fun t7 =>
 (hload false 1 H1 t7).bind fun t8 =>
 some (.ret t8, H1)))
def F10 (N lim : Nat) (a0 : Value) (H : IHeap) : RV := B10 N (F16 N) lim a0 H
def G10 (N : Nat) : G := w1 (F10 N)
theorem eq10 (N : Nat) (g16 : RF1) (lim : Nat) (a0 : Value) (H : IHeap) : ifun Tryz.prog { fn := envOf [(16, Ideal.w1 g16)], wr := [] } { promo := [], share := false } N (okOf Tryz.prog { promo := [], share := false } []) Tryz.f10 (.seq (.region []) (.seq (.seq (.region []) (.inl (.seq (.region []) .leaf) .leaf)) (.seq (.region []) .leaf))) lim [a0] H = B10 N g16 lim a0 H := by kernel_rfl
theorem sim10 (N : Nat) : SimF Tryz.prog 10 (G10 N) := by
  refine SimF.gen [(16, G16 N)] [] { promo := [], share := false } N (.seq (.region []) (.seq (.seq (.region []) (.inl (.seq (.region []) .leaf) .leaf)) (.seq (.region []) .leaf))) Tryz.func10 (by kernel_rfl) (by kernel_rfl) (env_cons (sim16 N) env_nil) ?_
  intro lim args H r h
  unfold G10 w1 at h
  split at h
  · exact (eq10 N (F16 N) lim _ H).trans h
  · simp at h
/-- besom/besomlaw24.WorldFatal -/
def B3 (N : Nat) (g4 : RF0) (g5 : RF1) (g6 : RF2) (g7 : RF0) (g8 : RF2) (g9 : RF1) (g10 : RF1) (lim : Nat) (code0 spawn1 : Value) (H : IHeap) : RV :=
 retK (callK (g4 lim H) fun t10 H1 =>
 (iun .not t10).bind fun t11 =>
 (boolK t11 fun b1 => bif b1 then
 (some (.ret (.bool false), H1))
 else
 (istore false 1 [(.int .i64 0)] 0 (.int .i64 1)).bind fun cs1 =>
 (istore false 1 [(.slice none 0 0)] 0 (slc 1 H1.next 0 1 2)).bind fun cs2 =>
 (istore true 1 [(.slice none 0 0)] 0 (.agg ⟨cs2⟩)).bind fun cs3 =>
 (istore false 1 [(.int .i64 0), (.int .i64 0), (.int .i64 0), (.int .i64 0)] 0 (.int .i64 23)).bind fun cs4 =>
 (istore false 1 cs4 2 (.int .i64 1)).bind fun cs5 =>
 (istore false 1 [(.int .i64 0), (.int .i64 0), (.int .i64 0), (.int .i64 0)] 0 (.int .i64 28)).bind fun cs6 =>
 (istore false 1 [(.int .i64 0), (.int .i64 0), (.int .i64 0), (.int .i64 0)] 0 (.int .i64 9)).bind fun cs7 =>
 (istore false 1 cs7 2 (.int .i64 1)).bind fun cs8 =>
 (istore true 4 [(.int .i64 0), (.int .i64 0), (.int .i64 0), (.int .i64 0), (.int .i64 0), (.int .i64 0), (.int .i64 0), (.int .i64 0), (.int .i64 0), (.int .i64 0), (.int .i64 0), (.int .i64 0)] 0 (.agg ⟨cs5⟩)).bind fun cs9 =>
 (istore true 4 cs9 4 (.agg ⟨cs6⟩)).bind fun cs10 =>
 (istore true 4 cs10 8 (.agg ⟨cs8⟩)).bind fun cs11 =>
 (istore false 1 [(.slice none 0 0), (.int .i64 0), (.int .i64 0), (.slice none 0 0), (.slice none 0 0)] 2 (.int .i64 2)).bind fun cs12 =>
 (istore false 1 cs12 4 (slc 4 ((H1.push (.cells cs1 0)).push (.cells cs3 0)).next 0 3 4)).bind fun cs13 =>
 callK (g5 lim code0 (((H1.push (.cells cs1 0)).push (.cells cs3 0)).push (.cells cs11 0))) fun t21 H2 =>
 (istore false 1 [(.int .i64 0), (.int .i64 0), (.int .i64 0), (.int .i64 0)] 0 (.int .i64 1)).bind fun cs14 =>
 (istore false 1 cs14 1 (.int .i64 0)).bind fun cs15 =>
 (istore false 1 cs15 2 t21).bind fun cs16 =>
 (istore false 1 [(.int .i64 0), (.int .i64 0), (.int .i64 0), (.int .i64 0)] 0 (.int .i64 11)).bind fun cs17 =>
 (istore false 1 cs17 1 (.int .i64 1)).bind fun cs18 =>
 (istore false 1 [(.int .i64 0), (.int .i64 0), (.int .i64 0), (.int .i64 0)] 0 (.int .i64 25)).bind fun cs19 =>
 (istore false 1 cs19 1 (.int .i64 0)).bind fun cs20 =>
 (istore false 1 cs20 2 (.int .i64 1)).bind fun cs21 =>
 (istore true 4 [(.int .i64 0), (.int .i64 0), (.int .i64 0), (.int .i64 0), (.int .i64 0), (.int .i64 0), (.int .i64 0), (.int .i64 0), (.int .i64 0), (.int .i64 0), (.int .i64 0), (.int .i64 0)] 0 (.agg ⟨cs16⟩)).bind fun cs22 =>
 (istore true 4 cs22 4 (.agg ⟨cs18⟩)).bind fun cs23 =>
 (istore true 4 cs23 8 (.agg ⟨cs21⟩)).bind fun cs24 =>
 (istore false 1 [(.slice none 0 0), (.int .i64 0), (.int .i64 0), (.slice none 0 0), (.slice none 0 0)] 2 (.int .i64 2)).bind fun cs25 =>
 (istore false 1 cs25 4 (slc 4 H2.next 0 3 4)).bind fun cs26 =>
 (istore true 5 [(.slice none 0 0), (.int .i64 0), (.int .i64 0), (.slice none 0 0), (.slice none 0 0), (.slice none 0 0), (.int .i64 0), (.int .i64 0), (.slice none 0 0), (.slice none 0 0)] 0 (.agg ⟨cs13⟩)).bind fun cs27 =>
 (istore true 5 cs27 5 (.agg ⟨cs26⟩)).bind fun cs28 =>
 (istore false 1 [(.slice none 0 0), (.slice none 0 0), (.slice none 0 0)] 1 (slc 1 (H1.push (.cells cs1 0)).next 0 1 2)).bind fun cs29 =>
 (istore false 1 cs29 2 (slc 5 (H2.push (.cells cs24 0)).next 0 2 3)).bind fun cs30 =>
 (istore true 3 [(.slice none 0 0), (.slice none 0 0), (.slice none 0 0)] 0 (.agg ⟨cs30⟩)).bind fun cs31 =>
 (iload true 3 cs31 0).bind fun t30 =>
 callK (g7 lim ((H2.push (.cells cs24 0)).push (.cells cs28 0))) fun t31 H3 =>
 callK (g6 lim t30 t31 H3) fun t32 H4 =>
 (iextract 0 t32).bind fun t33 =>
 (iextract 1 t32).bind fun t34 =>
 (iextract 2 t32).bind fun t35 =>
 (iun .not t35).bind fun t37 =>
 (gval false t37).bind fun w1 => grpK (bif w1 then
 ((ibin .eql .ptr t33 (.pointer none)).bind fun t40 =>
 some ([t40], H4))
 else some ([Value.tuple #[]], H4)) fun vs1 H5 =>
 (pickK t37 (.bool true) (nthV 0 vs1)).bind fun t41 =>
 (boolK t41 fun b3 => bif b3 then
 (some (.ret (.bool false), H5))
 else
 (istore true 2 [(.int .i64 0), (.int .i64 0)] 0 (.agg ⟨[(.int .i64 0), (.int .i64 0)]⟩)).bind fun cs32 =>
 callK (g8 lim t33 (slc 2 H5.next 0 1 2) (H5.push (.cells cs32 0))) fun t45 H6 =>
 catchK 0 (iloop (fun vs2 H7 =>
 (ibin .lss .no (nthV 0 vs2) (.int .i64 6)).bind fun t47 =>
 (boolK t47 fun b4 => bif b4 then
 (catchK 1 ((istore false 1 [(.int .i64 0), (.int .i64 0)] 1 (.int .i64 1)).bind fun cs33 =>
 (istore true 2 [(.int .i64 0), (.int .i64 0)] 0 (.agg ⟨cs33⟩)).bind fun cs34 =>
 callK (g8 lim t33 (slc 2 H7.next 0 1 2) (H7.push (.cells cs34 0))) fun t53 H8 =>
 joinK (boolK spawn1 fun b5 => bif b5 then
 ((istore true 2 [(.int .i64 0), (.int .i64 0)] 0 (.agg ⟨[(.int .i64 0), (.int .i64 0)]⟩)).bind fun cs35 =>
 callK (g8 lim t33 (slc 2 H8.next 0 1 2) (H8.push (.cells cs35 0))) fun t58 H9 =>
 some (.norm ([] ++ []), H9))
 else
 some (.norm ([] ++ []), H8)) fun vs3 H10 =>
 some (.norm ([] ++ []), H10)) fun vs4 H11 =>
 (ibin .add .no (nthV 0 vs2) (.int .i64 1)).bind fun t49 =>
 some (.norm ([t49] ++ []), H11))
 else
 some (.exit 0 ([] ++ []), H7))) N ([(.int .i64 0)] ++ []) H6) fun vs5 H12 =>
 callK (g9 lim t33 H12) fun t60 H13 =>
 (ibin .eql .no t60 (.int .i64 2)).bind fun t61 =>
 (gval true t61).bind fun w2 => grpK (bif w2 then
 (callK (g10 lim t33 H13) fun t64 H15 =>
 callK (g5 lim code0 H15) fun t66 H16 =>
 (ibin .eql .no t64 t66).bind fun t67 =>
 some ([t67], H16))
 else some ([Value.tuple #[]], H13)) fun vs6 H14 =>
 (pickK t61 (nthV 0 vs6) (.bool false)).bind fun t68 =>
 (gval true t68).bind fun w3 => grpK (bif w3 then
 ((istore true 2 [(.int .i64 0), (.int .i64 0)] 0 (.agg ⟨[(.int .i64 0), (.int .i64 0)]⟩)).bind fun cs36 =>
 callK (g8 lim t33 (slc 2 H14.next 0 1 2) (H14.push (.cells cs36 0))) fun t73 H18 =>
 (ibin .eql .no t73 (.int .i64 0)).bind fun t74 =>
 some ([t74], H18))
 else some ([Value.tuple #[]], H14)) fun vs7 H17 =>
 (pickK t68 (nthV 0 vs7) (.bool false)).bind fun t75 =>
 some (.ret t75, H17))))
def F3 (N lim : Nat) (a0 a1 : Value) (H : IHeap) : RV := B3 N (F4 N) (F5 N) (F6 N) (F7 N) (F8 N) (F9 N) (F10 N) lim a0 a1 H
def G3 (N : Nat) : G := w2 (F3 N)
theorem eq3 (N : Nat) (g4 : RF0) (g5 : RF1) (g6 : RF2) (g7 : RF0) (g8 : RF2) (g9 : RF1) (g10 : RF1) (lim : Nat) (a0 a1 : Value) (H : IHeap) : ifun Tryz.prog { fn := envOf [(4, Ideal.w0 g4), (5, Ideal.w1 g5), (6, Ideal.w2 g6), (7, Ideal.w0 g7), (8, Ideal.w2 g8), (9, Ideal.w1 g9), (10, Ideal.w1 g10)], wr := [6, 7] } { promo := [5], share := false } N (okOf Tryz.prog { promo := [5], share := false } [6, 7]) Tryz.f3 (.seq (.region []) (.seq (.seq (.region []) (.inl (.seq (.region []) .leaf) .leaf)) (.seq (.region []) (.seq (.region []) (.seq (.seq (.region [[40]]) (.inl (.seq (.region []) .leaf) .leaf)) (.seq (.region []) (.seq (.seq (.region []) (.block [] [] [] (.loop [9] [] [] (.seq (.seq (.region []) (.inl .leaf .leaf)) (.seq (.block [] [] [] (.seq (.region []) (.seq (.region []) (.join [] [] [] (.region []) .leaf)))) (.region [])))))) (.seq (.region [[67], [74]]) .leaf)))))))) lim [a0, a1] H = B3 N g4 g5 g6 g7 g8 g9 g10 lim a0 a1 H := by kernel_rfl
theorem sim3 (N : Nat) : SimF Tryz.prog 3 (G3 N) := by
  refine SimF.gen [(4, G4 N), (5, G5 N), (6, G6 N), (7, G7 N), (8, G8 N), (9, G9 N), (10, G10 N)] [6, 7] { promo := [5], share := false } N (.seq (.region []) (.seq (.seq (.region []) (.inl (.seq (.region []) .leaf) .leaf)) (.seq (.region []) (.seq (.region []) (.seq (.seq (.region [[40]]) (.inl (.seq (.region []) .leaf) .leaf)) (.seq (.region []) (.seq (.seq (.region []) (.block [] [] [] (.loop [9] [] [] (.seq (.seq (.region []) (.inl .leaf .leaf)) (.seq (.block [] [] [] (.seq (.region []) (.seq (.region []) (.join [] [] [] (.region []) .leaf)))) (.region [])))))) (.seq (.region [[67], [74]]) .leaf)))))))) Tryz.func3 (by kernel_rfl) (by kernel_rfl) (env_cons (sim4 N) (env_cons (sim5 N) (env_cons (sim6 N) (env_cons (sim7 N) (env_cons (sim8 N) (env_cons (sim9 N) (env_cons (sim10 N) env_nil))))))) ?_
  intro lim args H r h
  unfold G3 w2 at h
  split at h
  · exact (eq3 N (F4 N) (F5 N) (F6 N) (F7 N) (F8 N) (F9 N) (F10 N) lim _ _ H).trans h
  · simp at h
end Go.Ideal
