/- This text proves no statement of the seat: it says what functions of the program do on the ideal machine, part 3. By program (emitall.py). -/
import Derived.Test.YtganefjdidncbaaGreatDoorFc
namespace Go.Ideal
open Go.Proofs
set_option maxRecDepth 100000
set_option linter.unusedVariables false
/-- (*besom/world.World).task -/
def B16 (N : Nat) (g37 : RF1) (g38 : RF2) (g39 : RF2) (g40 : RF3) (g42 : RF1) (g43 : RF2) (g44 : RF1) (g45 : RF1) (g47 : RF3) (lim : Nat) (w0 k1 : Value) (H : IHeap) : RV :=
 retK ((ibin .lss .no k1 (.int .i64 0)).bind fun t10 =>
 (gval false t10).bind fun w1 => grpK (bif w1 then
 ((inilc w0).bind fun t14 =>
 (paddr 15 t14).bind fun t15 =>
 (hload false 1 H t15).bind fun t16 =>
 (ilenS t16).bind fun t17 =>
 (ibin .geq .no k1 t17).bind fun t18 =>
 some ([t18], H))
 else some ([Value.tuple #[]], H)) fun vs1 H1 =>
 (pickK t10 (.bool true) (nthV 0 vs1)).bind fun t19 =>
 (gval false t19).bind fun w2 => grpK (bif w2 then
 ((inilc w0).bind fun t22 =>
 (paddr 16 t22).bind fun t23 =>
 (hload false 1 H1 t23).bind fun t24 =>
 (iidx 2 t24 k1).bind fun t26 =>
 (hload true 2 H1 t26).bind fun t27 =>
 callK (g37 lim t27 H1) fun t28 H3 =>
 (iun .not t28).bind fun t29 =>
 some ([t29], H3))
 else some ([Value.tuple #[]], H1)) fun vs2 H2 =>
 (pickK t19 (.bool true) (nthV 0 vs2)).bind fun t30 =>
 (boolK t30 fun b3 => bif b3 then
 (some (.ret (.bool false), H2))
 else
 (inilc w0).bind fun t32 =>
 (paddr 15 t32).bind fun t33 =>
 (hload false 1 H2 t33).bind fun t34 =>
 (iidx 1 t34 k1).bind fun t36 =>
 (hload false 1 H2 t36).bind fun t37 =>
 (inilc w0).bind fun t40 =>
 (paddr 16 t40).bind fun t41 =>
 (hload false 1 H2 t41).bind fun t42 =>
 (iidx 2 t42 k1).bind fun t44 =>
 (hload true 2 H2 t44).bind fun t45 =>
 (inilc w0).bind fun t47 =>
 (paddr 0 t47).bind fun t48 =>
 (hload true 3 H2 t48).bind fun t49 =>
 callK (g39 H2.next t49 t37 H2) fun t51 H4 =>
 callK (g38 lim t45 t51 H4) fun t52 H5 =>
 (iextract 0 t52).bind fun t53 =>
 (iextract 1 t52).bind fun t54 =>
 (istore true 2 [(.int .i64 0), (.bool false)] 0 t53).bind fun cs1 =>
 (inilc w0).bind fun t56 =>
 (paddr 16 t56).bind fun t57 =>
 (hload false 1 H5 t57).bind fun t58 =>
 (iload true 2 cs1 0).bind fun t60 =>
 (iidx 2 t58 k1).bind fun t61 =>
 (hstore true 2 lim H5 t61 t60).bind fun H6 =>
 (boolK t54 fun b4 => bif b4 then
 (some (.ret (.bool true), H6))
 else
 (inilc w0).bind fun t64 =>
 (paddr 0 t64).bind fun t65 =>
 (hload true 3 H6 t65).bind fun t66 =>
 (inilc w0).bind fun t68 =>
 (paddr 8 t68).bind fun t69 =>
 (hload false 1 H6 t69).bind fun t70 =>
 callK (g40 lim t66 t70 t37 H6) fun t72 H7 =>
 (istore true 7 [(.int .i64 0), (.int .i64 0), (.int .i64 0), (.int .i64 0), (.int .i64 0), (.bool false), (.slice none 0 0)] 0 t72).bind fun cs2 =>
 (iload false 1 cs2 0).bind fun t74 =>
 (ibin .eql .no t74 (.int .i64 8)).bind fun t75 =>
 joinK (boolK t75 fun b5 => bif b5 then
 ((iload false 1 cs2 3).bind fun t77 =>
 (inilc w0).bind fun t79 =>
 (paddr 3 t79).bind fun t80 =>
 (paddr 2 t80).bind fun t81 =>
 (hload false 1 H7 t81).bind fun t82 =>
 (ibin .gtr .no t77 t82).bind fun t83 =>
 (boolK t83 fun b6 => bif b6 then
 ((inilc w0).bind fun t85 =>
 (paddr 20 t85).bind fun t86 =>
 (hstore false 1 lim H7 t86 (.int .i64 4)).bind fun H8 =>
 some (.ret (.bool true), H8))
 else
 (inilc w0).bind fun t89 =>
 (paddr 8 t89).bind fun t90 =>
 (hload false 1 H7 t90).bind fun t91 =>
 callK (g42 lim w0 H7) fun t93 H9 =>
 callK (g44 H9.next t37 H9) fun t95 H10 =>
 (iload false 1 cs2 3).bind fun t97 =>
 callK (g43 H10.next t95 t97 H10) fun t98 H11 =>
 (inilc w0).bind fun t100 =>
 (paddr 3 t100).bind fun t101 =>
 (paddr 2 t101).bind fun t102 =>
 (hload false 1 H11 t102).bind fun t103 =>
 (iminmax true [t98, t103]).bind fun t104 =>
 none))
 else
 some (.norm ([] ++ [.agg ⟨cs2⟩]), H7)) fun vs3 H12 =>
 (aggs (nthV 0 (vs3.drop 0))).bind fun cs3 =>
 (iload false 1 cs3 0).bind fun t117 =>
 callK (g45 lim t117 H12) fun t118 H13 =>
 joinK (boolK t118 fun b7 => bif b7 then
 ((aggs (nthV 0 (vs3.drop 0))).bind fun cs4 =>
 (iload true 7 cs4 0).bind fun t121 =>
 none)
 else
 (aggs (nthV 0 (vs3.drop 0))).bind fun cs5 =>
 (iload true 7 cs5 0).bind fun t125 =>
 callK (g47 lim w0 k1 t125 H13) fun t126 H14 =>
 some (.norm ([] ++ []), H14)) fun vs4 H15 =>
 some (.ret (.bool true), H15))))
def F16 (N lim : Nat) (a0 a1 : Value) (H : IHeap) : RV := B16 N (F37 N) (F38 N) (F39 N) (F40 N) (F42 N) (F43 N) (F44 N) (F45 N) (F47 N) lim a0 a1 H
def G16 (N : Nat) : G := w2 (F16 N)
theorem eq16 (N : Nat) (g37 : RF1) (g38 : RF2) (g39 : RF2) (g40 : RF3) (g42 : RF1) (g43 : RF2) (g44 : RF1) (g45 : RF1) (g47 : RF3) (lim : Nat) (a0 a1 : Value) (H : IHeap) : ifun Tryz.prog { fn := envOf [(37, Ideal.w1 g37), (38, Ideal.w2 g38), (39, Ideal.w2 g39), (40, Ideal.w3 g40), (42, Ideal.w1 g42), (43, Ideal.w2 g43), (44, Ideal.w1 g44), (45, Ideal.w1 g45), (47, Ideal.w3 g47)], wr := [38, 40, 41, 42] } { promo := [6, 8], share := false } N (okOf Tryz.prog { promo := [6, 8], share := false } [38, 40, 41, 42]) Tryz.f16 (.seq (.region []) (.seq (.seq (.region [[18], [29]]) (.inl (.seq (.region []) .leaf) .leaf)) (.seq (.region []) (.seq (.region []) (.seq (.seq (.region []) (.seq (.region []) (.inl (.seq (.region []) .leaf) .leaf))) (.seq (.region []) (.seq (.seq (.region []) (.join [] [8] [8] (.seq (.seq (.region []) (.inl (.seq (.region []) (.seq (.region []) .leaf)) .leaf)) (.seq (.late 6 [4, 16]) (.region []))) .leaf)) (.seq (.seq (.region []) (.join [] [] [] (.region []) (.region []))) (.seq (.region []) .leaf))))))))) lim [a0, a1] H = B16 N g37 g38 g39 g40 g42 g43 g44 g45 g47 lim a0 a1 H := by kernel_rfl
theorem sim16 (N : Nat) : SimF Tryz.prog 16 (G16 N) := by
  refine SimF.gen [(37, G37 N), (38, G38 N), (39, G39 N), (40, G40 N), (42, G42 N), (43, G43 N), (44, G44 N), (45, G45 N), (47, G47 N)] [38, 40, 41, 42] { promo := [6, 8], share := false } N (.seq (.region []) (.seq (.seq (.region [[18], [29]]) (.inl (.seq (.region []) .leaf) .leaf)) (.seq (.region []) (.seq (.region []) (.seq (.seq (.region []) (.seq (.region []) (.inl (.seq (.region []) .leaf) .leaf))) (.seq (.region []) (.seq (.seq (.region []) (.join [] [8] [8] (.seq (.seq (.region []) (.inl (.seq (.region []) (.seq (.region []) .leaf)) .leaf)) (.seq (.late 6 [4, 16]) (.region []))) .leaf)) (.seq (.seq (.region []) (.join [] [] [] (.region []) (.region []))) (.seq (.region []) .leaf))))))))) Tryz.func16 (by kernel_rfl) (by kernel_rfl) (env_cons (sim37 N) (env_cons (sim38 N) (env_cons (sim39 N) (env_cons (sim40 N) (env_cons (sim42 N) (env_cons (sim43 N) (env_cons (sim44 N) (env_cons (sim45 N) (env_cons (sim47 N) env_nil))))))))) ?_
  intro lim args H r h
  unfold G16 w2 at h
  split at h
  · exact (eq16 N (F37 N) (F38 N) (F39 N) (F40 N) (F42 N) (F43 N) (F44 N) (F45 N) (F47 N) lim _ _ H).trans h
  · simp at h
/-- (*besom/world.World).Step -/
def B8 (N : Nat) (g15 : RF1) (g16 : RF2) (lim : Nat) (w0 l1 : Value) (H : IHeap) : RV :=
 retK (callK (g15 lim w0 H) fun t12 H1 =>
 (boolK t12 fun b1 => bif b1 then
 (some (.ret (.int .i64 0), H1))
 else
 (istore false 1 [(.int .i64 0)] 0 (.int .i64 0)).bind fun cs1 =>
 (ikey 2 (.agg ⟨cs1⟩)).bind fun key1 =>
 bif isMapAt H1.next (.map (some H1.next)) && (ifind key1 []).isNone then
 ((istore false 1 [(.int .i64 0)] 0 (.int .i64 1)).bind fun cs2 =>
 (ikey 2 (.agg ⟨cs2⟩)).bind fun key2 =>
 bif isMapAt H1.next (.map (some H1.next)) && (ifind key2 ([] ++ [(key1, (.func (.func 16) ⟨[w0]⟩ ⟨[]⟩), 0)])).isNone then
 ((istore false 1 [(.int .i64 0)] 0 (.int .i64 2)).bind fun cs3 =>
 (ikey 2 (.agg ⟨cs3⟩)).bind fun key3 =>
 bif isMapAt H1.next (.map (some H1.next)) && (ifind key3 (([] ++ [(key1, (.func (.func 16) ⟨[w0]⟩ ⟨[]⟩), 0)]) ++ [(key2, (.func (.func 17) ⟨[w0]⟩ ⟨[]⟩), 0)])).isNone then
 ((istore false 1 [(.int .i64 0)] 0 (.int .i64 3)).bind fun cs4 =>
 (ikey 2 (.agg ⟨cs4⟩)).bind fun key4 =>
 bif isMapAt H1.next (.map (some H1.next)) && (ifind key4 ((([] ++ [(key1, (.func (.func 16) ⟨[w0]⟩ ⟨[]⟩), 0)]) ++ [(key2, (.func (.func 17) ⟨[w0]⟩ ⟨[]⟩), 0)]) ++ [(key3, (.func (.func 18) ⟨[w0]⟩ ⟨[]⟩), 0)])).isNone then
 ((istore false 1 [(.int .i64 0)] 0 (.int .i64 4)).bind fun cs5 =>
 (ikey 2 (.agg ⟨cs5⟩)).bind fun key5 =>
 bif isMapAt H1.next (.map (some H1.next)) && (ifind key5 (((([] ++ [(key1, (.func (.func 16) ⟨[w0]⟩ ⟨[]⟩), 0)]) ++ [(key2, (.func (.func 17) ⟨[w0]⟩ ⟨[]⟩), 0)]) ++ [(key3, (.func (.func 18) ⟨[w0]⟩ ⟨[]⟩), 0)]) ++ [(key4, (.func (.func 19) ⟨[w0]⟩ ⟨[]⟩), 0)])).isNone then
 ((istore false 1 [(.int .i64 0)] 0 (.int .i64 5)).bind fun cs6 =>
 (ikey 2 (.agg ⟨cs6⟩)).bind fun key6 =>
 bif isMapAt H1.next (.map (some H1.next)) && (ifind key6 ((((([] ++ [(key1, (.func (.func 16) ⟨[w0]⟩ ⟨[]⟩), 0)]) ++ [(key2, (.func (.func 17) ⟨[w0]⟩ ⟨[]⟩), 0)]) ++ [(key3, (.func (.func 18) ⟨[w0]⟩ ⟨[]⟩), 0)]) ++ [(key4, (.func (.func 19) ⟨[w0]⟩ ⟨[]⟩), 0)]) ++ [(key5, (.func (.func 20) ⟨[w0]⟩ ⟨[]⟩), 0)])).isNone then
 ((ilenS l1).bind fun t34 =>
 catchK 0 (iloop (fun vs1 H2 =>
 (ibin .lss .no (nthV 1 vs1) t34).bind fun t36 =>
 (boolK t36 fun b2 => bif b2 then
 (catchK 1 ((iidx 2 l1 (nthV 1 vs1)).bind fun t37 =>
 (hload true 2 H2 t37).bind fun t38 =>
 (istore true 2 [(.int .i64 0), (.int .i64 0)] 0 t38).bind fun cs7 =>
 (iload false 1 cs7 0).bind fun t42 =>
 (istore false 1 [(.int .i64 0)] 0 t42).bind fun cs8 =>
 (ilookup 2 .nilFunc true H2 (.map (some H1.next)) (.agg ⟨cs8⟩)).bind fun t44 =>
 (iextract 0 t44).bind fun t45 =>
 (iextract 1 t44).bind fun t46 =>
 (gval true t46).bind fun w1 => grpK (bif w1 then
 ((inilc w0).bind fun t50 =>
 (paddr 20 t50).bind fun t51 =>
 (hload false 1 H2 t51).bind fun t52 =>
 (ibin .eql .no t52 (.int .i64 0)).bind fun t53 =>
 some ([t53], H2))
 else some ([Value.tuple #[]], H2)) fun vs2 H3 =>
 (pickK t46 (nthV 0 vs2) (.bool false)).bind fun t54 =>
 (gval true t54).bind fun w2 => grpK (bif w2 then
 ((iload false 1 cs7 1).bind fun t58 =>
 funcK t45 fun fid1 fi1 ca1 => (envOf [(15, Ideal.w1 g15), (16, Ideal.w2 g16)] fid1).bind fun g1 =>
 callK (g1 lim (fi1 ++ [t58] ++ ca1) H3) fun t59 H5 =>
 some ([t59], H5))
 else some ([Value.tuple #[]], H3)) fun vs3 H4 =>
 (pickK t54 (nthV 0 vs3) (.bool false)).bind fun t60 =>
 joinK (boolK t60 fun b5 => bif b5 then
 ((ibin .add .no (nthV 0 vs1) (.int .i64 1)).bind fun t62 =>
 some (.norm ([t62] ++ []), H4))
 else
 some (.norm ([(nthV 0 vs1)] ++ []), H4)) fun vs4 H6 =>
 some (.norm ([(nthV 0 vs4)] ++ []), H6)) fun vs5 H7 =>
 (ibin .add .no (nthV 1 vs1) (.int .i64 1)).bind fun t63 =>
 some (.norm ([(nthV 0 vs5), t63] ++ []), H7))
 else
 some (.exit 0 ([(nthV 0 vs1)] ++ []), H2))) N ([(.int .i64 0), (.int .i64 0)] ++ []) (H1.push (.fmap 2 (((((([] ++ [(key1, (.func (.func 16) ⟨[w0]⟩ ⟨[]⟩), 0)]) ++ [(key2, (.func (.func 17) ⟨[w0]⟩ ⟨[]⟩), 0)]) ++ [(key3, (.func (.func 18) ⟨[w0]⟩ ⟨[]⟩), 0)]) ++ [(key4, (.func (.func 19) ⟨[w0]⟩ ⟨[]⟩), 0)]) ++ [(key5, (.func (.func 20) ⟨[w0]⟩ ⟨[]⟩), 0)]) ++ [(key6, (.func (.func 21) ⟨[w0]⟩ ⟨[]⟩), 0)])))) fun vs6 H8 =>
 some (.ret (nthV 0 vs6), H8))
 else none)
 else none)
 else none)
 else none)
 else none)
 else none))
def F8 (N lim : Nat) (a0 a1 : Value) (H : IHeap) : RV := B8 N (F15 N) (F16 N) lim a0 a1 H
def G8 (N : Nat) : G := w2 (F8 N)
theorem eq8 (N : Nat) (g15 : RF1) (g16 : RF2) (lim : Nat) (a0 a1 : Value) (H : IHeap) : ifun Tryz.prog { fn := envOf [(15, Ideal.w1 g15), (16, Ideal.w2 g16)], wr := [] } { promo := [8], share := false } N (okOf Tryz.prog { promo := [8], share := false } []) Tryz.f8 (.seq (.region []) (.seq (.seq (.region []) (.inl (.seq (.region []) .leaf) .leaf)) (.seq .lit (.seq (.region []) (.seq (.seq (.region []) (.block [6] [] [8] (.loop [6, 35] [] [8] (.seq (.region []) (.seq (.inl .leaf .leaf) (.seq (.block [6] [] [8] (.seq (.region []) (.seq (.region []) (.seq (.region [[53], [59]]) (.join [6] [] [] (.region []) .leaf))))) (.region []))))))) (.seq (.region []) .leaf)))))) lim [a0, a1] H = B8 N g15 g16 lim a0 a1 H := by kernel_rfl
theorem sim8 (N : Nat) : SimF Tryz.prog 8 (G8 N) := by
  refine SimF.gen [(15, G15 N), (16, G16 N)] [] { promo := [8], share := false } N (.seq (.region []) (.seq (.seq (.region []) (.inl (.seq (.region []) .leaf) .leaf)) (.seq .lit (.seq (.region []) (.seq (.seq (.region []) (.block [6] [] [8] (.loop [6, 35] [] [8] (.seq (.region []) (.seq (.inl .leaf .leaf) (.seq (.block [6] [] [8] (.seq (.region []) (.seq (.region []) (.seq (.region [[53], [59]]) (.join [6] [] [] (.region []) .leaf))))) (.region []))))))) (.seq (.region []) .leaf)))))) Tryz.func8 (by kernel_rfl) (by kernel_rfl) (env_cons (sim15 N) (env_cons (sim16 N) env_nil)) ?_
  intro lim args H r h
  unfold G8 w2 at h
  split at h
  · exact (eq8 N (F15 N) (F16 N) lim _ _ H).trans h
  · simp at h
/-- besom/world.Check -/
def B25 (N : Nat) (lim : Nat) (c0 : Value) (H : IHeap) : RV :=
 retK ((cellsOf true 5 c0).bind fun cs1 =>
 (iload false 1 cs1 0).bind fun t6 =>
 (istore false 1 [(.int .i64 0), (.int .i64 0), (.int .i64 0)] 0 (.int .i64 1)).bind fun cs2 =>
 (istore false 1 cs2 1 t6).bind fun cs3 =>
 (istore false 1 cs3 2 (.int .i64 64)).bind fun cs4 =>
 (iload false 1 cs1 1).bind fun t9 =>
 (iload false 1 cs1 2).bind fun t11 =>
 (istore false 1 [(.int .i64 0), (.int .i64 0), (.int .i64 0)] 0 (.int .i64 1)).bind fun cs5 =>
 (istore false 1 cs5 1 t9).bind fun cs6 =>
 (istore false 1 cs6 2 t11).bind fun cs7 =>
 (iload false 1 cs1 2).bind fun t14 =>
 (istore false 1 [(.int .i64 0), (.int .i64 0), (.int .i64 0)] 0 (.int .i64 1)).bind fun cs8 =>
 (istore false 1 cs8 1 t14).bind fun cs9 =>
 (istore false 1 cs9 2 (.int .i64 4096)).bind fun cs10 =>
 (iload false 1 cs1 3).bind fun t17 =>
 (istore false 1 [(.int .i64 0), (.int .i64 0), (.int .i64 0)] 0 (.int .i64 1)).bind fun cs11 =>
 (istore false 1 cs11 1 t17).bind fun cs12 =>
 (istore false 1 cs12 2 (.int .i64 1000000)).bind fun cs13 =>
 (iload false 1 cs1 4).bind fun t20 =>
 (istore false 1 [(.int .i64 0), (.int .i64 0), (.int .i64 0)] 0 (.int .i64 1)).bind fun cs14 =>
 (istore false 1 cs14 1 t20).bind fun cs15 =>
 (istore false 1 cs15 2 (.int .i64 1000)).bind fun cs16 =>
 (istore true 3 [(.int .i64 0), (.int .i64 0), (.int .i64 0), (.int .i64 0), (.int .i64 0), (.int .i64 0), (.int .i64 0), (.int .i64 0), (.int .i64 0), (.int .i64 0), (.int .i64 0), (.int .i64 0), (.int .i64 0), (.int .i64 0), (.int .i64 0)] 0 (.agg ⟨cs4⟩)).bind fun cs17 =>
 (istore true 3 cs17 3 (.agg ⟨cs7⟩)).bind fun cs18 =>
 (istore true 3 cs18 6 (.agg ⟨cs10⟩)).bind fun cs19 =>
 (istore true 3 cs19 9 (.agg ⟨cs13⟩)).bind fun cs20 =>
 (istore true 3 cs20 12 (.agg ⟨cs16⟩)).bind fun cs21 =>
 (ilenS (slc 3 H.next 0 5 6)).bind fun t23 =>
 catchK 0 (iloop (fun vs1 H1 =>
 (ibin .lss .no (nthV 0 vs1) t23).bind fun t25 =>
 (boolK t25 fun b1 => bif b1 then
 (catchK 1 ((iidx 3 (slc 3 H.next 0 5 6) (nthV 0 vs1)).bind fun t26 =>
 (hload true 3 H1 t26).bind fun t27 =>
 (istore true 3 [(.int .i64 0), (.int .i64 0), (.int .i64 0)] 0 t27).bind fun cs22 =>
 (iidxA 3 1 (.int .i64 1)).bind fun o1 =>
 (iload false 1 cs22 (0 + o1)).bind fun t29 =>
 (iidxA 3 1 (.int .i64 0)).bind fun o2 =>
 (iload false 1 cs22 (0 + o2)).bind fun t31 =>
 (ibin .lss .no t29 t31).bind fun t32 =>
 (gval false t32).bind fun w1 => grpK (bif w1 then
 ((iidxA 3 1 (.int .i64 1)).bind fun o3 =>
 (iload false 1 cs22 (0 + o3)).bind fun t35 =>
 (iidxA 3 1 (.int .i64 2)).bind fun o4 =>
 (iload false 1 cs22 (0 + o4)).bind fun t37 =>
 (ibin .gtr .no t35 t37).bind fun t38 =>
 some ([t38], H1))
 else some ([Value.tuple #[]], H1)) fun vs2 H2 =>
 (pickK t32 (.bool true) (nthV 0 vs2)).bind fun t39 =>
 (boolK t39 fun b3 => bif b3 then
 (some (.ret (.int .i64 1), H2))
 else
 some (.norm ([] ++ []), H2))) fun vs3 H3 =>
 (ibin .add .no (nthV 0 vs1) (.int .i64 1)).bind fun t40 =>
 some (.norm ([t40] ++ []), H3))
 else
 some (.exit 0 ([] ++ []), H1))) N ([(.int .i64 0)] ++ []) (H.push (.cells cs21 0))) fun vs4 H4 =>
 some (.ret (.int .i64 0), H4))
def F25 (N lim : Nat) (a0 : Value) (H : IHeap) : RV := B25 N lim a0 H
def G25 (N : Nat) : G := w1 (F25 N)
theorem eq25 (N : Nat) (lim : Nat) (a0 : Value) (H : IHeap) : ifun Tryz.prog { fn := envOf [], wr := [] } { promo := [1, 4], share := false } N (okOf Tryz.prog { promo := [1, 4], share := false } []) Tryz.f25 (.seq (.region []) (.seq (.seq (.region []) (.block [] [] [4] (.loop [24] [] [4] (.seq (.region []) (.seq (.inl .leaf .leaf) (.seq (.block [] [] [4] (.seq (.region []) (.seq (.region [[38]]) (.inl (.seq (.region []) .leaf) .leaf)))) (.region []))))))) (.seq (.region []) .leaf))) lim [a0] H = B25 N lim a0 H := by kernel_rfl
theorem sim25 (N : Nat) : SimF Tryz.prog 25 (G25 N) := by
  refine SimF.gen [] [] { promo := [1, 4], share := false } N (.seq (.region []) (.seq (.seq (.region []) (.block [] [] [4] (.loop [24] [] [4] (.seq (.region []) (.seq (.inl .leaf .leaf) (.seq (.block [] [] [4] (.seq (.region []) (.seq (.region [[38]]) (.inl (.seq (.region []) .leaf) .leaf)))) (.region []))))))) (.seq (.region []) .leaf))) Tryz.func25 (by kernel_rfl) (by kernel_rfl) env_nil ?_
  intro lim args H r h
  unfold G25 w1 at h
  split at h
  · exact (eq25 N lim _ H).trans h
  · simp at h
/-- besom/shape.kinds -/
def B149 (N : Nat) (lim : Nat) (shapes0 places1 : Value) (H : IHeap) : RV :=
 retK ((ibin .lss .no shapes0 (.int .i64 0)).bind fun t9 =>
 (gval false t9).bind fun w1 => grpK (bif w1 then
 ((ibin .gtr .no shapes0 (.int .i64 16)).bind fun t12 =>
 some ([t12], (H.push (.map 0 [] 0))))
 else some ([Value.tuple #[]], (H.push (.map 0 [] 0)))) fun vs1 H1 =>
 (pickK t9 (.bool true) (nthV 0 vs1)).bind fun t13 =>
 (boolK t13 fun b2 => bif b2 then
 (some (.ret (.map (some H.next)), H1))
 else
 (ilookup 0 (.int .i64 0) false H1 (.map (some H.next)) (.int .i64 1)).bind fun t16 =>
 (ibin .add .no t16 (.int .i64 1)).bind fun t17 =>
 (imapUpdate 0 lim H1 (.map (some H.next)) (.int .i64 1) t17).bind fun H2 =>
 catchK 0 (iloop (fun vs2 H3 =>
 (ibin .lss .no (nthV 0 vs2) shapes0).bind fun t20 =>
 (boolK t20 fun b3 => bif b3 then
 (catchK 1 ((ibin .add .no (.int .i64 16) (nthV 0 vs2)).bind fun t24 =>
 (ilookup 0 (.int .i64 0) false H3 (.map (some H.next)) t24).bind fun t25 =>
 (ibin .add .no t25 (.int .i64 1)).bind fun t26 =>
 (imapUpdate 0 lim H3 (.map (some H.next)) t24 t26).bind fun H4 =>
 joinK (boolK places1 fun b4 => bif b4 then
 ((ibin .add .no (.int .i64 64) (nthV 0 vs2)).bind fun t30 =>
 (ilookup 0 (.int .i64 0) false H4 (.map (some H.next)) t30).bind fun t31 =>
 (ibin .add .no t31 (.int .i64 1)).bind fun t32 =>
 (imapUpdate 0 lim H4 (.map (some H.next)) t30 t32).bind fun H5 =>
 some (.norm ([] ++ []), H5))
 else
 some (.norm ([] ++ []), H4)) fun vs3 H6 =>
 some (.norm ([] ++ []), H6)) fun vs4 H7 =>
 (ibin .add .no (nthV 0 vs2) (.int .i64 1)).bind fun t33 =>
 some (.norm ([t33] ++ []), H7))
 else
 some (.exit 0 ([] ++ []), H3))) N ([(.int .i64 0)] ++ []) H2) fun vs5 H8 =>
 some (.ret (.map (some H.next)), H8)))
def F149 (N lim : Nat) (a0 a1 : Value) (H : IHeap) : RV := B149 N lim a0 a1 H
def G149 (N : Nat) : G := w2 (F149 N)
theorem eq149 (N : Nat) (lim : Nat) (a0 a1 : Value) (H : IHeap) : ifun Tryz.prog { fn := envOf [], wr := [] } { promo := [], share := false } N (okOf Tryz.prog { promo := [], share := false } []) Tryz.f149 (.seq (.region []) (.seq (.region []) (.seq (.seq (.region [[12]]) (.inl (.seq (.region []) .leaf) .leaf)) (.seq (.region []) (.seq (.seq (.region []) (.block [] [] [] (.loop [19] [] [] (.seq (.region []) (.seq (.inl .leaf .leaf) (.seq (.block [] [] [] (.seq (.region []) (.seq (.region []) (.seq (.region []) (.join [] [] [] (.region []) .leaf))))) (.region []))))))) (.seq (.region []) .leaf)))))) lim [a0, a1] H = B149 N lim a0 a1 H := by kernel_rfl
theorem sim149 (N : Nat) : SimF Tryz.prog 149 (G149 N) := by
  refine SimF.gen [] [] { promo := [], share := false } N (.seq (.region []) (.seq (.region []) (.seq (.seq (.region [[12]]) (.inl (.seq (.region []) .leaf) .leaf)) (.seq (.region []) (.seq (.seq (.region []) (.block [] [] [] (.loop [19] [] [] (.seq (.region []) (.seq (.inl .leaf .leaf) (.seq (.block [] [] [] (.seq (.region []) (.seq (.region []) (.seq (.region []) (.join [] [] [] (.region []) .leaf))))) (.region []))))))) (.seq (.region []) .leaf)))))) Tryz.func149 (by kernel_rfl) (by kernel_rfl) env_nil ?_
  intro lim args H r h
  unfold G149 w2 at h
  split at h
  · exact (eq149 N lim _ _ H).trans h
  · simp at h
/-- besom/shape.Check -/
def B77 (N : Nat) (g149 : RF2) (lim : Nat) (l0 : Value) (H : IHeap) : RV :=
 retK ((ilenS l0).bind fun t9 =>
 (ibin .gtr .no t9 (.int .i64 16)).bind fun t10 =>
 (boolK t10 fun b1 => bif b1 then
 (some (.ret (.int .i64 1), H))
 else
 (ilenS l0).bind fun t12 =>
 callK (g149 lim t12 (.bool false) H) fun t13 H1 =>
 (ilenS l0).bind fun t15 =>
 catchK 0 (iloop (fun vs1 H2 =>
 (ibin .lss .no (nthV 0 vs1) t15).bind fun t17 =>
 (boolK t17 fun b2 => bif b2 then
 (catchK 1 ((iidx 1 l0 (nthV 0 vs1)).bind fun t18 =>
 (hload true 1 H2 t18).bind fun t19 =>
 (istore true 1 [(.slice none 0 0)] 0 t19).bind fun cs1 =>
 (iload false 1 cs1 0).bind fun t21 =>
 (ilenS t21).bind fun t22 =>
 (ibin .lss .no t22 (.int .i64 1)).bind fun t23 =>
 (gval false t23).bind fun w1 => grpK (bif w1 then
 ((iload false 1 cs1 0).bind fun t26 =>
 (ilenS t26).bind fun t27 =>
 (ibin .gtr .no t27 (.int .i64 16)).bind fun t28 =>
 some ([t28], H2))
 else some ([Value.tuple #[]], H2)) fun vs2 H3 =>
 (pickK t23 (.bool true) (nthV 0 vs2)).bind fun t29 =>
 (boolK t29 fun b4 => bif b4 then
 (some (.ret (.int .i64 1), H3))
 else
 (iload false 1 cs1 0).bind fun t31 =>
 (ilenS t31).bind fun t32 =>
 catchK 2 (iloop (fun vs3 H4 =>
 (ibin .lss .no (nthV 0 vs3) t32).bind fun t34 =>
 (boolK t34 fun b5 => bif b5 then
 (catchK 3 ((iidx 1 t31 (nthV 0 vs3)).bind fun t35 =>
 (hload false 1 H4 t35).bind fun t36 =>
 (ilookup 0 (.int .i64 0) false H4 t13 t36).bind fun t39 =>
 (ibin .eql .no t39 (.int .i64 0)).bind fun t40 =>
 (boolK t40 fun b6 => bif b6 then
 (some (.ret (.int .i64 3), H4))
 else
 some (.norm ([] ++ []), H4))) fun vs4 H5 =>
 (ibin .add .no (nthV 0 vs3) (.int .i64 1)).bind fun t41 =>
 some (.norm ([t41] ++ []), H5))
 else
 some (.exit 2 ([] ++ []), H4))) N ([(.int .i64 0)] ++ []) H3) fun vs5 H6 =>
 some (.norm ([] ++ []), H6))) fun vs6 H7 =>
 (ibin .add .no (nthV 0 vs1) (.int .i64 1)).bind fun t42 =>
 some (.norm ([t42] ++ []), H7))
 else
 some (.exit 0 ([] ++ []), H2))) N ([(.int .i64 0)] ++ []) H1) fun vs7 H8 =>
 some (.ret (.int .i64 0), H8)))
def F77 (N lim : Nat) (a0 : Value) (H : IHeap) : RV := B77 N (F149 N) lim a0 H
def G77 (N : Nat) : G := w1 (F77 N)
theorem eq77 (N : Nat) (g149 : RF2) (lim : Nat) (a0 : Value) (H : IHeap) : ifun Tryz.prog { fn := envOf [(149, Ideal.w2 g149)], wr := [] } { promo := [5], share := false } N (okOf Tryz.prog { promo := [5], share := false } []) Tryz.f77 (.seq (.region []) (.seq (.seq (.region []) (.inl (.seq (.region []) .leaf) .leaf)) (.seq (.region []) (.seq (.seq (.region []) (.block [] [] [5] (.loop [16] [] [5] (.seq (.region []) (.seq (.inl .leaf .leaf) (.seq (.block [] [] [5] (.seq (.region []) (.seq (.seq (.region [[28]]) (.inl (.seq (.region []) .leaf) .leaf)) (.seq (.region []) (.block [] [] [] (.loop [33] [] [] (.seq (.region []) (.seq (.inl .leaf .leaf) (.seq (.block [] [] [] (.seq (.region []) (.seq (.region []) (.inl (.seq (.region []) .leaf) .leaf)))) (.region [])))))))))) (.region []))))))) (.seq (.region []) .leaf))))) lim [a0] H = B77 N g149 lim a0 H := by kernel_rfl
theorem sim77 (N : Nat) : SimF Tryz.prog 77 (G77 N) := by
  refine SimF.gen [(149, G149 N)] [] { promo := [5], share := false } N (.seq (.region []) (.seq (.seq (.region []) (.inl (.seq (.region []) .leaf) .leaf)) (.seq (.region []) (.seq (.seq (.region []) (.block [] [] [5] (.loop [16] [] [5] (.seq (.region []) (.seq (.inl .leaf .leaf) (.seq (.block [] [] [5] (.seq (.region []) (.seq (.seq (.region [[28]]) (.inl (.seq (.region []) .leaf) .leaf)) (.seq (.region []) (.block [] [] [] (.loop [33] [] [] (.seq (.region []) (.seq (.inl .leaf .leaf) (.seq (.block [] [] [] (.seq (.region []) (.seq (.region []) (.inl (.seq (.region []) .leaf) .leaf)))) (.region [])))))))))) (.region []))))))) (.seq (.region []) .leaf))))) Tryz.func77 (by kernel_rfl) (by kernel_rfl) (env_cons (sim149 N) env_nil) ?_
  intro lim args H r h
  unfold G77 w1 at h
  split at h
  · exact (eq77 N (F149 N) lim _ H).trans h
  · simp at h
/-- besom/check.whole -/
def B142 (N : Nat) (g77 : RF1) (lim : Nat) (p0 : Value) (H : IHeap) : RV :=
 retK ((cellsOf true 3 p0).bind fun cs1 =>
 (iload false 1 cs1 1).bind fun t7 =>
 callK (g77 lim t7 H) fun t8 H1 =>
 (ibin .neq .no t8 (.int .i64 0)).bind fun t10 =>
 (boolK t10 fun b1 => bif b1 then
 (some (.ret t8, H1))
 else
 (iload false 1 cs1 0).bind fun t13 =>
 (ilenS t13).bind fun t14 =>
 (ibin .gtr .no t14 (.int .i64 16)).bind fun t15 =>
 (gval false t15).bind fun w1 => grpK (bif w1 then
 ((iload false 1 cs1 2).bind fun t18 =>
 (ilenS t18).bind fun t19 =>
 (ibin .lss .no t19 (.int .i64 1)).bind fun t20 =>
 some ([t20], H1))
 else some ([Value.tuple #[]], H1)) fun vs1 H2 =>
 (pickK t15 (.bool true) (nthV 0 vs1)).bind fun t21 =>
 (gval false t21).bind fun w2 => grpK (bif w2 then
 ((iload false 1 cs1 2).bind fun t24 =>
 (ilenS t24).bind fun t25 =>
 (ibin .gtr .no t25 (.int .i64 16)).bind fun t26 =>
 some ([t26], H2))
 else some ([Value.tuple #[]], H2)) fun vs2 H3 =>
 (pickK t21 (.bool true) (nthV 0 vs2)).bind fun t27 =>
 (boolK t27 fun b4 => bif b4 then
 (some (.ret (.int .i64 1), H3))
 else
 (iload false 1 cs1 0).bind fun t29 =>
 (ilenS t29).bind fun t30 =>
 catchK 0 (iloop (fun vs3 H4 =>
 (ibin .lss .no (nthV 0 vs3) t30).bind fun t32 =>
 (boolK t32 fun b5 => bif b5 then
 (catchK 1 ((iidx 1 t29 (nthV 0 vs3)).bind fun t33 =>
 (hload false 1 H4 t33).bind fun t34 =>
 (iload false 1 cs1 1).bind fun t37 =>
 (ilenS t37).bind fun t38 =>
 none) fun vs4 H5 =>
 (ibin .add .no (nthV 0 vs3) (.int .i64 1)).bind fun t41 =>
 some (.norm ([t41] ++ []), H5))
 else
 some (.exit 0 ([] ++ []), H4))) N ([(.int .i64 0)] ++ []) H3) fun vs5 H6 =>
 (iload false 1 cs1 2).bind fun t43 =>
 (iidx 5 t43 (.int .i64 0)).bind fun t44 =>
 (paddr 0 t44).bind fun t45 =>
 (hload false 1 H6 t45).bind fun t46 =>
 (ilenS t46).bind fun t47 =>
 (ibin .gtr .no t47 (.int .i64 0)).bind fun t48 =>
 (gval false t48).bind fun w3 => grpK (bif w3 then
 ((iload false 1 cs1 2).bind fun t51 =>
 (iidx 5 t51 (.int .i64 0)).bind fun t52 =>
 (paddr 1 t52).bind fun t53 =>
 (hload false 1 H6 t53).bind fun t54 =>
 (ibin .neq .no t54 (.int .i64 0)).bind fun t55 =>
 some ([t55], H6))
 else some ([Value.tuple #[]], H6)) fun vs6 H7 =>
 (pickK t48 (.bool true) (nthV 0 vs6)).bind fun t56 =>
 (boolK t56 fun b7 => bif b7 then
 (some (.ret (.int .i64 3), H7))
 else
 some (.ret (.int .i64 0), H7)))))
def F142 (N lim : Nat) (a0 : Value) (H : IHeap) : RV := B142 N (F77 N) lim a0 H
def G142 (N : Nat) : G := w1 (F142 N)
theorem eq142 (N : Nat) (g77 : RF1) (lim : Nat) (a0 : Value) (H : IHeap) : ifun Tryz.prog { fn := envOf [(77, Ideal.w1 g77)], wr := [] } { promo := [1], share := false } N (okOf Tryz.prog { promo := [1], share := false } []) Tryz.f142 (.seq (.region []) (.seq (.seq (.region []) (.seq (.region []) (.inl (.seq (.region []) .leaf) .leaf))) (.seq (.seq (.region [[20], [26]]) (.inl (.seq (.region []) .leaf) .leaf)) (.seq (.seq (.region []) (.block [] [] [] (.loop [31] [] [] (.seq (.region []) (.seq (.inl .leaf .leaf) (.seq (.block [] [] [] (.seq (.region []) (.seq (.region []) (.inl (.seq (.region []) .leaf) .leaf)))) (.region []))))))) (.seq (.seq (.region [[55]]) (.inl (.seq (.region []) .leaf) .leaf)) (.seq (.region []) .leaf)))))) lim [a0] H = B142 N g77 lim a0 H := by kernel_rfl
theorem sim142 (N : Nat) : SimF Tryz.prog 142 (G142 N) := by
  refine SimF.gen [(77, G77 N)] [] { promo := [1], share := false } N (.seq (.region []) (.seq (.seq (.region []) (.seq (.region []) (.inl (.seq (.region []) .leaf) .leaf))) (.seq (.seq (.region [[20], [26]]) (.inl (.seq (.region []) .leaf) .leaf)) (.seq (.seq (.region []) (.block [] [] [] (.loop [31] [] [] (.seq (.region []) (.seq (.inl .leaf .leaf) (.seq (.block [] [] [] (.seq (.region []) (.seq (.region []) (.inl (.seq (.region []) .leaf) .leaf)))) (.region []))))))) (.seq (.seq (.region [[55]]) (.inl (.seq (.region []) .leaf) .leaf)) (.seq (.region []) .leaf)))))) Tryz.func142 (by kernel_rfl) (by kernel_rfl) (env_cons (sim77 N) env_nil) ?_
  intro lim args H r h
  unfold G142 w1 at h
  split at h
  · exact (eq142 N (F77 N) lim _ H).trans h
  · simp at h
/-- besom/check.within -/
def B214 (N : Nat) (lim : Nat) (n0 below1 : Value) (H : IHeap) : RV :=
 retK ((ibin .geq .no n0 (.int .i64 0)).bind fun t6 =>
 (gval true t6).bind fun w1 => grpK (bif w1 then
 ((ibin .lss .no n0 below1).bind fun t10 =>
 some ([t10], H))
 else some ([Value.tuple #[]], H)) fun vs1 H1 =>
 (pickK t6 (nthV 0 vs1) (.bool false)).bind fun t11 =>
 some (.ret t11, H1))
def F214 (N lim : Nat) (a0 a1 : Value) (H : IHeap) : RV := B214 N lim a0 a1 H
def G214 (N : Nat) : G := w2 (F214 N)
theorem eq214 (N : Nat) (lim : Nat) (a0 a1 : Value) (H : IHeap) : ifun Tryz.prog { fn := envOf [], wr := [] } { promo := [], share := false } N (okOf Tryz.prog { promo := [], share := false } []) Tryz.f214 (.seq (.region []) (.seq (.region [[10]]) .leaf)) lim [a0, a1] H = B214 N lim a0 a1 H := by kernel_rfl
theorem sim214 (N : Nat) : SimF Tryz.prog 214 (G214 N) := by
  refine SimF.gen [] [] { promo := [], share := false } N (.seq (.region []) (.seq (.region [[10]]) .leaf)) Tryz.func214 (by kernel_rfl) (by kernel_rfl) env_nil ?_
  intro lim args H r h
  unfold G214 w2 at h
  split at h
  · exact (eq214 N lim _ _ H).trans h
  · simp at h
/-- besom/check.front -/
def B215 (N : Nat) (g214 : RF2) (lim : Nat) (p0 f1 : Value) (H : IHeap) : RV :=
 retK ((cellsOf true 3 p0).bind fun cs1 =>
 (cellsOf true 5 f1).bind fun cs2 =>
 (iload false 1 cs2 2).bind fun t10 =>
 (iload false 1 cs2 0).bind fun t12 =>
 (ilenS t12).bind fun t13 =>
 (ibin .lss .no t10 t13).bind fun t14 =>
 (gval false t14).bind fun w1 => grpK (bif w1 then
 ((iload false 1 cs2 2).bind fun t17 =>
 (ibin .gtr .no t17 (.int .i64 16)).bind fun t18 =>
 some ([t18], H))
 else some ([Value.tuple #[]], H)) fun vs1 H1 =>
 (pickK t14 (.bool true) (nthV 0 vs1)).bind fun t19 =>
 (gval false t19).bind fun w2 => grpK (bif w2 then
 ((iload false 1 cs2 3).bind fun t22 =>
 (ilenS t22).bind fun t23 =>
 (ibin .gtr .no t23 (.int .i64 8)).bind fun t24 =>
 some ([t24], H1))
 else some ([Value.tuple #[]], H1)) fun vs2 H2 =>
 (pickK t19 (.bool true) (nthV 0 vs2)).bind fun t25 =>
 (gval false t25).bind fun w3 => grpK (bif w3 then
 ((iload false 1 cs2 4).bind fun t28 =>
 (ilenS t28).bind fun t29 =>
 (ibin .lss .no t29 (.int .i64 1)).bind fun t30 =>
 some ([t30], H2))
 else some ([Value.tuple #[]], H2)) fun vs3 H3 =>
 (pickK t25 (.bool true) (nthV 0 vs3)).bind fun t31 =>
 (gval false t31).bind fun w4 => grpK (bif w4 then
 ((iload false 1 cs2 4).bind fun t34 =>
 (ilenS t34).bind fun t35 =>
 (ibin .gtr .no t35 (.int .i64 64)).bind fun t36 =>
 some ([t36], H3))
 else some ([Value.tuple #[]], H3)) fun vs4 H4 =>
 (pickK t31 (.bool true) (nthV 0 vs4)).bind fun t37 =>
 (boolK t37 fun b5 => bif b5 then
 (some (.ret (.int .i64 1), H4))
 else
 (iload false 1 cs2 0).bind fun t39 =>
 (ilenS t39).bind fun t40 =>
 catchK 0 (iloop (fun vs5 H5 =>
 (ibin .lss .no (nthV 0 vs5) t40).bind fun t42 =>
 (boolK t42 fun b6 => bif b6 then
 (catchK 1 ((iidx 1 t39 (nthV 0 vs5)).bind fun t43 =>
 (hload false 1 H5 t43).bind fun t44 =>
 (iload false 1 cs1 1).bind fun t47 =>
 (ilenS t47).bind fun t48 =>
 none) fun vs6 H6 =>
 (ibin .add .no (nthV 0 vs5) (.int .i64 1)).bind fun t51 =>
 some (.norm ([t51] ++ []), H6))
 else
 some (.exit 0 ([] ++ []), H5))) N ([(.int .i64 0)] ++ []) H4) fun vs7 H7 =>
 (iload false 1 cs2 1).bind fun t53 =>
 (ibin .neq .no t53 (.int .i64 0)).bind fun t54 =>
 (gval true t54).bind fun w5 => grpK (bif w5 then
 ((iload false 1 cs2 1).bind fun t57 =>
 (iload false 1 cs1 1).bind fun t59 =>
 (ilenS t59).bind fun t60 =>
 none)
 else some ([Value.tuple #[]], H7)) fun vs8 H8 =>
 (pickK t54 (nthV 0 vs8) (.bool false)).bind fun t63 =>
 (boolK t63 fun b8 => bif b8 then
 (some (.ret (.int .i64 3), H8))
 else
 (iload false 1 cs2 3).bind fun t65 =>
 (ilenS t65).bind fun t66 =>
 catchK 2 (iloop (fun vs9 H9 =>
 (ibin .lss .no (nthV 0 vs9) t66).bind fun t68 =>
 (boolK t68 fun b9 => bif b9 then
 (catchK 3 ((iidx 1 t65 (nthV 0 vs9)).bind fun t69 =>
 (hload false 1 H9 t69).bind fun t70 =>
 (iload false 1 cs1 1).bind fun t73 =>
 (ilenS t73).bind fun t74 =>
 callK (g214 lim t70 t74 H9) fun t75 H10 =>
 (iun .not t75).bind fun t76 =>
 (boolK t76 fun b10 => bif b10 then
 (some (.ret (.int .i64 4), H10))
 else
 some (.norm ([] ++ []), H10))) fun vs10 H11 =>
 (ibin .add .no (nthV 0 vs9) (.int .i64 1)).bind fun t77 =>
 some (.norm ([t77] ++ []), H11))
 else
 some (.exit 2 ([] ++ []), H9))) N ([(.int .i64 0)] ++ []) H8) fun vs11 H12 =>
 some (.ret (.int .i64 0), H12))))
def F215 (N lim : Nat) (a0 a1 : Value) (H : IHeap) : RV := B215 N (F214 N) lim a0 a1 H
def G215 (N : Nat) : G := w2 (F215 N)
theorem eq215 (N : Nat) (g214 : RF2) (lim : Nat) (a0 a1 : Value) (H : IHeap) : ifun Tryz.prog { fn := envOf [(214, Ideal.w2 g214)], wr := [] } { promo := [2, 3], share := false } N (okOf Tryz.prog { promo := [2, 3], share := false } []) Tryz.f215 (.seq (.region []) (.seq (.seq (.region [[18], [24], [30], [36]]) (.inl (.seq (.region []) .leaf) .leaf)) (.seq (.seq (.region []) (.block [] [] [] (.loop [41] [] [] (.seq (.region []) (.seq (.inl .leaf .leaf) (.seq (.block [] [] [] (.seq (.region []) (.seq (.region []) (.inl (.seq (.region []) .leaf) .leaf)))) (.region []))))))) (.seq (.seq (.region [[62]]) (.inl (.seq (.region []) .leaf) .leaf)) (.seq (.seq (.region []) (.block [] [] [] (.loop [67] [] [] (.seq (.region []) (.seq (.inl .leaf .leaf) (.seq (.block [] [] [] (.seq (.region []) (.seq (.region []) (.inl (.seq (.region []) .leaf) .leaf)))) (.region []))))))) (.seq (.region []) .leaf)))))) lim [a0, a1] H = B215 N g214 lim a0 a1 H := by kernel_rfl
theorem sim215 (N : Nat) : SimF Tryz.prog 215 (G215 N) := by
  refine SimF.gen [(214, G214 N)] [] { promo := [2, 3], share := false } N (.seq (.region []) (.seq (.seq (.region [[18], [24], [30], [36]]) (.inl (.seq (.region []) .leaf) .leaf)) (.seq (.seq (.region []) (.block [] [] [] (.loop [41] [] [] (.seq (.region []) (.seq (.inl .leaf .leaf) (.seq (.block [] [] [] (.seq (.region []) (.seq (.region []) (.inl (.seq (.region []) .leaf) .leaf)))) (.region []))))))) (.seq (.seq (.region [[62]]) (.inl (.seq (.region []) .leaf) .leaf)) (.seq (.seq (.region []) (.block [] [] [] (.loop [67] [] [] (.seq (.region []) (.seq (.inl .leaf .leaf) (.seq (.block [] [] [] (.seq (.region []) (.seq (.region []) (.inl (.seq (.region []) .leaf) .leaf)))) (.region []))))))) (.seq (.region []) .leaf)))))) Tryz.func215 (by kernel_rfl) (by kernel_rfl) (env_cons (sim214 N) env_nil) ?_
  intro lim args H r h
  unfold G215 w2 at h
  split at h
  · exact (eq215 N (F214 N) lim _ _ H).trans h
  · simp at h
/-- besom/check.code -/
def B274 (N : Nat) (lim : Nat) (p0 fn1 : Value) (H : IHeap) : RV :=
 retK ((cellsOf true 3 p0).bind fun cs1 =>
 (ibin .geq .no fn1 (.int .i64 0)).bind fun t10 =>
 (gval true t10).bind fun w1 => grpK (bif w1 then
 ((iload false 1 cs1 2).bind fun t14 =>
 (ilenS t14).bind fun t15 =>
 (ibin .lss .no fn1 t15).bind fun t16 =>
 some ([t16], (H.push (.map 3 [] 0))))
 else some ([Value.tuple #[]], (H.push (.map 3 [] 0)))) fun vs1 H1 =>
 (pickK t10 (nthV 0 vs1) (.bool false)).bind fun t17 =>
 joinK (boolK t17 fun b2 => bif b2 then
 ((iload false 1 cs1 2).bind fun t19 =>
 (iidx 5 t19 fn1).bind fun t21 =>
 (paddr 4 t21).bind fun t22 =>
 (hload false 1 H1 t22).bind fun t23 =>
 (ilenS t23).bind fun t24 =>
 catchK 0 (iloop (fun vs2 H2 =>
 (ibin .lss .no (nthV 0 vs2) t24).bind fun t26 =>
 (boolK t26 fun b3 => bif b3 then
 (catchK 1 ((iidx 4 t23 (nthV 0 vs2)).bind fun t28 =>
 (hload true 4 H2 t28).bind fun t29 =>
 (istore true 4 [(.int .i64 0), (.int .i64 0), (.int .i64 0), (.int .i64 0)] 0 t29).bind fun cs2 =>
 (istore false 1 [(.int .i64 0), (.int .i64 0)] 0 fn1).bind fun cs3 =>
 (istore false 1 cs3 1 (nthV 0 vs2)).bind fun cs4 =>
 (iload true 4 cs2 0).bind fun t34 =>
 (imapUpdate 3 lim H2 (.map (some H.next)) (.agg ⟨cs4⟩) t34).bind fun H3 =>
 some (.norm ([] ++ []), H3)) fun vs3 H4 =>
 (ibin .add .no (nthV 0 vs2) (.int .i64 1)).bind fun t35 =>
 some (.norm ([t35] ++ []), H4))
 else
 some (.exit 0 ([] ++ []), H2))) N ([(.int .i64 0)] ++ []) H1) fun vs4 H5 =>
 some (.norm ([] ++ []), H5))
 else
 some (.norm ([] ++ []), H1)) fun vs5 H6 =>
 some (.ret (.map (some H.next)), H6))
def F274 (N lim : Nat) (a0 a1 : Value) (H : IHeap) : RV := B274 N lim a0 a1 H
def G274 (N : Nat) : G := w2 (F274 N)
theorem eq274 (N : Nat) (lim : Nat) (a0 a1 : Value) (H : IHeap) : ifun Tryz.prog { fn := envOf [], wr := [] } { promo := [2, 7], share := false } N (okOf Tryz.prog { promo := [2, 7], share := false } []) Tryz.f274 (.seq (.region []) (.seq (.region []) (.seq (.seq (.region [[16]]) (.join [] [] [7] (.seq (.region []) (.block [] [] [7] (.loop [25] [] [7] (.seq (.region []) (.seq (.inl .leaf .leaf) (.seq (.block [] [] [7] (.seq (.region []) (.region []))) (.region []))))))) .leaf)) (.seq (.region []) .leaf)))) lim [a0, a1] H = B274 N lim a0 a1 H := by kernel_rfl
theorem sim274 (N : Nat) : SimF Tryz.prog 274 (G274 N) := by
  refine SimF.gen [] [] { promo := [2, 7], share := false } N (.seq (.region []) (.seq (.region []) (.seq (.seq (.region [[16]]) (.join [] [] [7] (.seq (.region []) (.block [] [] [7] (.loop [25] [] [7] (.seq (.region []) (.seq (.inl .leaf .leaf) (.seq (.block [] [] [7] (.seq (.region []) (.region []))) (.region []))))))) .leaf)) (.seq (.region []) .leaf)))) Tryz.func274 (by kernel_rfl) (by kernel_rfl) env_nil ?_
  intro lim args H r h
  unfold G274 w2 at h
  split at h
  · exact (eq274 N lim _ _ H).trans h
  · simp at h
/-- besom/instr.Uses -/
def B307 (N : Nat) (lim : Nat) (op0 : Value) (H : IHeap) : RV :=
 retK (catchK 0 ((ibin .eql .no op0 (.int .i64 1)).bind fun t7 =>
 joinK (boolK t7 fun b1 => bif b1 then
 (some (.norm ([t7] ++ []), H))
 else
 (ibin .eql .no op0 (.int .i64 2)).bind fun t8 =>
 joinK (boolK t8 fun b2 => bif b2 then
 (some (.norm ([t8] ++ []), H))
 else
 (ibin .eql .no op0 (.int .i64 10)).bind fun t9 =>
 joinK (boolK t9 fun b3 => bif b3 then
 (some (.norm ([t9] ++ []), H))
 else
 (ibin .eql .no op0 (.int .i64 11)).bind fun t10 =>
 joinK (boolK t10 fun b4 => bif b4 then
 (some (.norm ([t10] ++ []), H))
 else
 (ibin .eql .no op0 (.int .i64 12)).bind fun t11 =>
 joinK (boolK t11 fun b5 => bif b5 then
 (some (.norm ([t11] ++ []), H))
 else
 (ibin .eql .no op0 (.int .i64 13)).bind fun t12 =>
 joinK (boolK t12 fun b6 => bif b6 then
 (some (.norm ([t12] ++ []), H))
 else
 (ibin .eql .no op0 (.int .i64 16)).bind fun t13 =>
 joinK (boolK t13 fun b7 => bif b7 then
 (some (.norm ([t13] ++ []), H))
 else
 (ibin .eql .no op0 (.int .i64 17)).bind fun t14 =>
 joinK (boolK t14 fun b8 => bif b8 then
 (some (.norm ([t14] ++ []), H))
 else
 (ibin .eql .no op0 (.int .i64 18)).bind fun t15 =>
 joinK (boolK t15 fun b9 => bif b9 then
 (some (.norm ([t15] ++ []), H))
 else
 (ibin .eql .no op0 (.int .i64 25)).bind fun t16 =>
 joinK (boolK t16 fun b10 => bif b10 then
 (some (.norm ([t16] ++ []), H))
 else
 (ibin .eql .no op0 (.int .i64 26)).bind fun t17 =>
 some (.norm ([t17] ++ []), H)) fun vs1 H1 =>
 some (.norm ([(nthV 0 vs1)] ++ []), H1)) fun vs2 H2 =>
 some (.norm ([(nthV 0 vs2)] ++ []), H2)) fun vs3 H3 =>
 some (.norm ([(nthV 0 vs3)] ++ []), H3)) fun vs4 H4 =>
 some (.norm ([(nthV 0 vs4)] ++ []), H4)) fun vs5 H5 =>
 some (.norm ([(nthV 0 vs5)] ++ []), H5)) fun vs6 H6 =>
 some (.norm ([(nthV 0 vs6)] ++ []), H6)) fun vs7 H7 =>
 some (.norm ([(nthV 0 vs7)] ++ []), H7)) fun vs8 H8 =>
 some (.norm ([(nthV 0 vs8)] ++ []), H8)) fun vs9 H9 =>
 some (.norm ([(nthV 0 vs9)] ++ []), H9)) fun vs10 H10 =>
 (boolK (nthV 0 vs10) fun b11 => bif b11 then
 (some (.ret (.tuple ⟨[(.bool true), (.bool true), (.bool false)]⟩), H10))
 else
 (ibin .eql .no op0 (.int .i64 3)).bind fun t19 =>
 joinK (boolK t19 fun b12 => bif b12 then
 (some (.norm ([t19] ++ []), H10))
 else
 (ibin .eql .no op0 (.int .i64 4)).bind fun t20 =>
 joinK (boolK t20 fun b13 => bif b13 then
 (some (.norm ([t20] ++ []), H10))
 else
 (ibin .eql .no op0 (.int .i64 5)).bind fun t21 =>
 joinK (boolK t21 fun b14 => bif b14 then
 (some (.norm ([t21] ++ []), H10))
 else
 (ibin .eql .no op0 (.int .i64 6)).bind fun t22 =>
 joinK (boolK t22 fun b15 => bif b15 then
 (some (.norm ([t22] ++ []), H10))
 else
 (ibin .eql .no op0 (.int .i64 7)).bind fun t23 =>
 joinK (boolK t23 fun b16 => bif b16 then
 (some (.norm ([t23] ++ []), H10))
 else
 (ibin .eql .no op0 (.int .i64 8)).bind fun t24 =>
 joinK (boolK t24 fun b17 => bif b17 then
 (some (.norm ([t24] ++ []), H10))
 else
 (ibin .eql .no op0 (.int .i64 14)).bind fun t25 =>
 joinK (boolK t25 fun b18 => bif b18 then
 (some (.norm ([t25] ++ []), H10))
 else
 (ibin .eql .no op0 (.int .i64 15)).bind fun t26 =>
 joinK (boolK t26 fun b19 => bif b19 then
 (some (.norm ([t26] ++ []), H10))
 else
 (ibin .eql .no op0 (.int .i64 19)).bind fun t27 =>
 joinK (boolK t27 fun b20 => bif b20 then
 (some (.norm ([t27] ++ []), H10))
 else
 (ibin .eql .no op0 (.int .i64 20)).bind fun t28 =>
 joinK (boolK t28 fun b21 => bif b21 then
 (some (.norm ([t28] ++ []), H10))
 else
 (ibin .eql .no op0 (.int .i64 21)).bind fun t29 =>
 some (.norm ([t29] ++ []), H10)) fun vs11 H11 =>
 some (.norm ([(nthV 0 vs11)] ++ []), H11)) fun vs12 H12 =>
 some (.norm ([(nthV 0 vs12)] ++ []), H12)) fun vs13 H13 =>
 some (.norm ([(nthV 0 vs13)] ++ []), H13)) fun vs14 H14 =>
 some (.norm ([(nthV 0 vs14)] ++ []), H14)) fun vs15 H15 =>
 some (.norm ([(nthV 0 vs15)] ++ []), H15)) fun vs16 H16 =>
 some (.norm ([(nthV 0 vs16)] ++ []), H16)) fun vs17 H17 =>
 some (.norm ([(nthV 0 vs17)] ++ []), H17)) fun vs18 H18 =>
 some (.norm ([(nthV 0 vs18)] ++ []), H18)) fun vs19 H19 =>
 some (.norm ([(nthV 0 vs19)] ++ []), H19)) fun vs20 H20 =>
 (boolK (nthV 0 vs20) fun b22 => bif b22 then
 (some (.ret (.tuple ⟨[(.bool true), (.bool true), (.bool true)]⟩), H20))
 else
 (ibin .eql .no op0 (.int .i64 9)).bind fun t31 =>
 (boolK t31 fun b23 => bif b23 then
 (some (.ret (.tuple ⟨[(.bool false), (.bool true), (.bool false)]⟩), H20))
 else
 (ibin .eql .no op0 (.int .i64 22)).bind fun t33 =>
 joinK (boolK t33 fun b24 => bif b24 then
 (some (.norm ([t33] ++ []), H20))
 else
 (ibin .eql .no op0 (.int .i64 29)).bind fun t34 =>
 some (.norm ([t34] ++ []), H20)) fun vs21 H21 =>
 (boolK (nthV 0 vs21) fun b25 => bif b25 then
 (some (.ret (.tuple ⟨[(.bool true), (.bool false), (.bool false)]⟩), H21))
 else
 (ibin .eql .no op0 (.int .i64 23)).bind fun t36 =>
 joinK (boolK t36 fun b26 => bif b26 then
 (some (.norm ([t36] ++ []), H21))
 else
 (ibin .eql .no op0 (.int .i64 24)).bind fun t37 =>
 some (.norm ([t37] ++ []), H21)) fun vs22 H22 =>
 (boolK (nthV 0 vs22) fun b27 => bif b27 then
 (some (.ret (.tuple ⟨[(.bool false), (.bool true), (.bool true)]⟩), H22))
 else
 some (.norm ([] ++ []), H22))))))) fun vs23 H23 =>
 some (.ret (.tuple ⟨[(.bool false), (.bool false), (.bool false)]⟩), H23))
def F307 (N lim : Nat) (a0 : Value) (H : IHeap) : RV := B307 N lim a0 H
def G307 (N : Nat) : G := w1 (F307 N)
theorem eq307 (N : Nat) (lim : Nat) (a0 : Value) (H : IHeap) : ifun Tryz.prog { fn := envOf [], wr := [] } { promo := [], share := false } N (okOf Tryz.prog { promo := [], share := false } []) Tryz.f307 (.seq (.region []) (.seq (.seq (.region []) (.block [] [] [] (.seq (.seq (.region []) (.join [6] [] [] .leaf (.seq (.region []) (.join [6] [] [] .leaf (.seq (.region []) (.join [6] [] [] .leaf (.seq (.region []) (.join [6] [] [] .leaf (.seq (.region []) (.join [6] [] [] .leaf (.seq (.region []) (.join [6] [] [] .leaf (.seq (.region []) (.join [6] [] [] .leaf (.seq (.region []) (.join [6] [] [] .leaf (.seq (.region []) (.join [6] [] [] .leaf (.seq (.region []) (.join [6] [] [] .leaf (.region []))))))))))))))))))))) (.inl (.seq (.region []) .leaf) (.seq (.seq (.region []) (.join [18] [] [] .leaf (.seq (.region []) (.join [18] [] [] .leaf (.seq (.region []) (.join [18] [] [] .leaf (.seq (.region []) (.join [18] [] [] .leaf (.seq (.region []) (.join [18] [] [] .leaf (.seq (.region []) (.join [18] [] [] .leaf (.seq (.region []) (.join [18] [] [] .leaf (.seq (.region []) (.join [18] [] [] .leaf (.seq (.region []) (.join [18] [] [] .leaf (.seq (.region []) (.join [18] [] [] .leaf (.region []))))))))))))))))))))) (.inl (.seq (.region []) .leaf) (.seq (.region []) (.inl (.seq (.region []) .leaf) (.seq (.seq (.region []) (.join [32] [] [] .leaf (.region []))) (.inl (.seq (.region []) .leaf) (.seq (.seq (.region []) (.join [35] [] [] .leaf (.region []))) (.inl (.seq (.region []) .leaf) .leaf)))))))))))) (.seq (.region []) .leaf))) lim [a0] H = B307 N lim a0 H := by kernel_rfl
theorem sim307 (N : Nat) : SimF Tryz.prog 307 (G307 N) := by
  refine SimF.gen [] [] { promo := [], share := false } N (.seq (.region []) (.seq (.seq (.region []) (.block [] [] [] (.seq (.seq (.region []) (.join [6] [] [] .leaf (.seq (.region []) (.join [6] [] [] .leaf (.seq (.region []) (.join [6] [] [] .leaf (.seq (.region []) (.join [6] [] [] .leaf (.seq (.region []) (.join [6] [] [] .leaf (.seq (.region []) (.join [6] [] [] .leaf (.seq (.region []) (.join [6] [] [] .leaf (.seq (.region []) (.join [6] [] [] .leaf (.seq (.region []) (.join [6] [] [] .leaf (.seq (.region []) (.join [6] [] [] .leaf (.region []))))))))))))))))))))) (.inl (.seq (.region []) .leaf) (.seq (.seq (.region []) (.join [18] [] [] .leaf (.seq (.region []) (.join [18] [] [] .leaf (.seq (.region []) (.join [18] [] [] .leaf (.seq (.region []) (.join [18] [] [] .leaf (.seq (.region []) (.join [18] [] [] .leaf (.seq (.region []) (.join [18] [] [] .leaf (.seq (.region []) (.join [18] [] [] .leaf (.seq (.region []) (.join [18] [] [] .leaf (.seq (.region []) (.join [18] [] [] .leaf (.seq (.region []) (.join [18] [] [] .leaf (.region []))))))))))))))))))))) (.inl (.seq (.region []) .leaf) (.seq (.region []) (.inl (.seq (.region []) .leaf) (.seq (.seq (.region []) (.join [32] [] [] .leaf (.region []))) (.inl (.seq (.region []) .leaf) (.seq (.seq (.region []) (.join [35] [] [] .leaf (.region []))) (.inl (.seq (.region []) .leaf) .leaf)))))))))))) (.seq (.region []) .leaf))) Tryz.func307 (by kernel_rfl) (by kernel_rfl) env_nil ?_
  intro lim args H r h
  unfold G307 w1 at h
  split at h
  · exact (eq307 N lim _ H).trans h
  · simp at h
/-- (besom/check.look).callee -/
def B310 (N : Nat) (g214 : RF2) (lim : Nat) (l0 : Value) (H : IHeap) : RV :=
 retK ((cellsOf true 14 l0).bind fun cs1 =>
 (iload false 1 cs1 8).bind fun t6 =>
 catchK 0 ((ibin .eql .no t6 (.int .i64 21)).bind fun t8 =>
 joinK (boolK t8 fun b1 => bif b1 then
 (some (.norm ([t8] ++ []), H))
 else
 (ibin .eql .no t6 (.int .i64 23)).bind fun t9 =>
 joinK (boolK t9 fun b2 => bif b2 then
 (some (.norm ([t9] ++ []), H))
 else
 (ibin .eql .no t6 (.int .i64 24)).bind fun t10 =>
 some (.norm ([t10] ++ []), H)) fun vs1 H1 =>
 some (.norm ([(nthV 0 vs1)] ++ []), H1)) fun vs2 H2 =>
 joinK (boolK (nthV 0 vs2) fun b3 => bif b3 then
 ((iload false 1 cs1 10).bind fun t13 =>
 (iload false 1 cs1 2).bind fun t16 =>
 (ilenS t16).bind fun t17 =>
 callK (g214 lim t13 t17 H2) fun t18 H3 =>
 (boolK t18 fun b4 => bif b4 then
 ((iload false 1 cs1 2).bind fun t21 =>
 (iload false 1 cs1 10).bind fun t24 =>
 (iidx 5 t21 t24).bind fun t25 =>
 (hload true 5 H3 t25).bind fun t26 =>
 (istore true 5 [(.slice none 0 0), (.int .i64 0), (.int .i64 0), (.slice none 0 0), (.slice none 0 0)] 0 t26).bind fun cs2 =>
 (iload true 5 cs2 0).bind fun r1 =>
 some (.ret (.tuple ⟨[r1, (.bool true)]⟩), H3))
 else
 some (.norm ([] ++ [.agg ⟨[(.slice none 0 0), (.int .i64 0), (.int .i64 0), (.slice none 0 0), (.slice none 0 0)]⟩]), H3)))
 else
 some (.norm ([] ++ [.agg ⟨[(.slice none 0 0), (.int .i64 0), (.int .i64 0), (.slice none 0 0), (.slice none 0 0)]⟩]), H2)) fun vs3 H4 =>
 (aggs (nthV 0 (vs3.drop 0))).bind fun cs3 =>
 some (.norm ([] ++ [.agg ⟨cs3⟩]), H4)) fun vs4 H5 =>
 (aggs (nthV 0 (vs4.drop 0))).bind fun cs4 =>
 (istore true 5 cs4 0 (.agg ⟨[(.slice none 0 0), (.int .i64 0), (.int .i64 0), (.slice none 0 0), (.slice none 0 0)]⟩)).bind fun cs5 =>
 (iload true 5 cs5 0).bind fun r2 =>
 some (.ret (.tuple ⟨[r2, (.bool false)]⟩), H5))
def F310 (N lim : Nat) (a0 : Value) (H : IHeap) : RV := B310 N (F214 N) lim a0 H
def G310 (N : Nat) : G := w1 (F310 N)
theorem eq310 (N : Nat) (g214 : RF2) (lim : Nat) (a0 : Value) (H : IHeap) : ifun Tryz.prog { fn := envOf [(214, Ideal.w2 g214)], wr := [] } { promo := [1, 2], share := false } N (okOf Tryz.prog { promo := [1, 2], share := false } []) Tryz.f310 (.seq (.region []) (.seq (.seq (.region []) (.block [] [2] [2] (.seq (.seq (.region []) (.join [7] [] [] .leaf (.seq (.region []) (.join [7] [] [] .leaf (.region []))))) (.join [] [2] [2] (.seq (.region []) (.inl (.seq (.region []) .leaf) .leaf)) .leaf)))) (.seq (.region []) .leaf))) lim [a0] H = B310 N g214 lim a0 H := by kernel_rfl
theorem sim310 (N : Nat) : SimF Tryz.prog 310 (G310 N) := by
  refine SimF.gen [(214, G214 N)] [] { promo := [1, 2], share := false } N (.seq (.region []) (.seq (.seq (.region []) (.block [] [2] [2] (.seq (.seq (.region []) (.join [7] [] [] .leaf (.seq (.region []) (.join [7] [] [] .leaf (.region []))))) (.join [] [2] [2] (.seq (.region []) (.inl (.seq (.region []) .leaf) .leaf)) .leaf)))) (.seq (.region []) .leaf))) Tryz.func310 (by kernel_rfl) (by kernel_rfl) (env_cons (sim214 N) env_nil) ?_
  intro lim args H r h
  unfold G310 w1 at h
  split at h
  · exact (eq310 N (F214 N) lim _ H).trans h
  · simp at h
/-- (besom/check.look).quiet -/
def B308 (N : Nat) (g310 : RF1) (lim : Nat) (l0 : Value) (H : IHeap) : RV :=
 retK ((cellsOf true 14 l0).bind fun cs1 =>
 (iload true 14 cs1 0).bind fun t6 =>
 callK (g310 lim t6 H) fun t7 H1 =>
 (iextract 0 t7).bind fun t8 =>
 (iextract 1 t7).bind fun t9 =>
 (istore true 5 [(.slice none 0 0), (.int .i64 0), (.int .i64 0), (.slice none 0 0), (.slice none 0 0)] 0 t8).bind fun cs2 =>
 (iload false 1 cs1 8).bind fun t12 =>
 (ibin .eql .no t12 (.int .i64 22)).bind fun t13 =>
 (gval true t13).bind fun w1 => grpK (bif w1 then
 ((iload false 1 cs1 4).bind fun t17 =>
 (ibin .eql .no t17 (.int .i64 0)).bind fun t18 =>
 some ([t18], H1))
 else some ([Value.tuple #[]], H1)) fun vs1 H2 =>
 (pickK t13 (nthV 0 vs1) (.bool false)).bind fun t19 =>
 (gval false t19).bind fun w2 => grpK (bif w2 then
 ((iload false 1 cs1 8).bind fun t23 =>
 (ibin .eql .no t23 (.int .i64 21)).bind fun t24 =>
 some ([t24], H2))
 else some ([Value.tuple #[]], H2)) fun vs2 H3 =>
 (gval true (nthV 0 vs2)).bind fun w3 => grpK (bif w3 then
 (some ([t9], H3))
 else some ([Value.tuple #[]], H3)) fun vs3 H4 =>
 (gval false t19).bind fun w4 => grpK (bif w4 then
 ((pickK (nthV 0 vs2) (nthV 0 vs3) (.bool false)).bind fun t27 =>
 some ([t27], H4))
 else some ([Value.tuple #[]], H4)) fun vs4 H5 =>
 (gval true (nthV 0 vs4)).bind fun w5 => grpK (bif w5 then
 ((iload false 1 cs2 1).bind fun t30 =>
 (ibin .eql .no t30 (.int .i64 0)).bind fun t31 =>
 some ([t31], H5))
 else some ([Value.tuple #[]], H5)) fun vs5 H6 =>
 (gval false t19).bind fun w6 => grpK (bif w6 then
 ((pickK (nthV 0 vs4) (nthV 0 vs5) (.bool false)).bind fun t32 =>
 some ([t32], H6))
 else some ([Value.tuple #[]], H6)) fun vs6 H7 =>
 (pickK t19 (.bool true) (nthV 0 vs6)).bind fun t33 =>
 some (.ret t33, H7))
def F308 (N lim : Nat) (a0 : Value) (H : IHeap) : RV := B308 N (F310 N) lim a0 H
def G308 (N : Nat) : G := w1 (F308 N)
theorem eq308 (N : Nat) (g310 : RF1) (lim : Nat) (a0 : Value) (H : IHeap) : ifun Tryz.prog { fn := envOf [(310, Ideal.w1 g310)], wr := [] } { promo := [1, 3], share := false } N (okOf Tryz.prog { promo := [1, 3], share := false } []) Tryz.f308 (.seq (.region []) (.seq (.region []) (.seq (.region [[18], [25], [26], [28], [31], [32]]) .leaf))) lim [a0] H = B308 N g310 lim a0 H := by kernel_rfl
theorem sim308 (N : Nat) : SimF Tryz.prog 308 (G308 N) := by
  refine SimF.gen [(310, G310 N)] [] { promo := [1, 3], share := false } N (.seq (.region []) (.seq (.region []) (.seq (.region [[18], [25], [26], [28], [31], [32]]) .leaf))) Tryz.func308 (by kernel_rfl) (by kernel_rfl) (env_cons (sim310 N) env_nil) ?_
  intro lim args H r h
  unfold G308 w1 at h
  split at h
  · exact (eq308 N (F310 N) lim _ H).trans h
  · simp at h
/-- besom/instr.Known -/
def B309 (N : Nat) (lim : Nat) (op0 : Value) (H : IHeap) : RV :=
 retK ((ibin .geq .no op0 (.int .i64 0)).bind fun t4 =>
 (gval true t4).bind fun w1 => grpK (bif w1 then
 ((ibin .leq .no op0 (.int .i64 29)).bind fun t7 =>
 some ([t7], H))
 else some ([Value.tuple #[]], H)) fun vs1 H1 =>
 (pickK t4 (nthV 0 vs1) (.bool false)).bind fun t8 =>
 some (.ret t8, H1))
def F309 (N lim : Nat) (a0 : Value) (H : IHeap) : RV := B309 N lim a0 H
def G309 (N : Nat) : G := w1 (F309 N)
theorem eq309 (N : Nat) (lim : Nat) (a0 : Value) (H : IHeap) : ifun Tryz.prog { fn := envOf [], wr := [] } { promo := [], share := false } N (okOf Tryz.prog { promo := [], share := false } []) Tryz.f309 (.seq (.region []) (.seq (.region [[7]]) .leaf)) lim [a0] H = B309 N lim a0 H := by kernel_rfl
theorem sim309 (N : Nat) : SimF Tryz.prog 309 (G309 N) := by
  refine SimF.gen [] [] { promo := [], share := false } N (.seq (.region []) (.seq (.region [[7]]) .leaf)) Tryz.func309 (by kernel_rfl) (by kernel_rfl) env_nil ?_
  intro lim args H r h
  unfold G309 w1 at h
  split at h
  · exact (eq309 N lim _ H).trans h
  · simp at h
/-- (besom/check.look).form -/
def B275 (N : Nat) (g307 : RF1) (g308 : RF1) (g309 : RF1) (lim : Nat) (l0 : Value) (H : IHeap) : RV :=
 retK ((cellsOf true 14 l0).bind fun cs1 =>
 (iload false 1 cs1 8).bind fun t9 =>
 callK (g307 lim t9 H) fun t10 H1 =>
 (iextract 0 t10).bind fun t11 =>
 (iextract 1 t10).bind fun t12 =>
 (iextract 2 t10).bind fun t13 =>
 (gval true t11).bind fun w1 => grpK (bif w1 then
 ((iload true 14 cs1 0).bind fun t16 =>
 callK (g308 lim t16 H1) fun t17 H3 =>
 (iun .not t17).bind fun t18 =>
 some ([t18], H3))
 else some ([Value.tuple #[]], H1)) fun vs1 H2 =>
 (pickK t11 (nthV 0 vs1) (.bool false)).bind fun t19 =>
 (iload false 1 cs1 8).bind fun t22 =>
 callK (g309 lim t22 H2) fun t23 H4 =>
 (gval true t23).bind fun w2 => grpK (bif w2 then
 (some ([t19], H4))
 else some ([Value.tuple #[]], H4)) fun vs2 H5 =>
 (gval false (nthV 0 vs2)).bind fun w3 => grpK (bif w3 then
 ((iload false 1 cs1 9).bind fun t29 =>
 (ibin .eql .no t29 (.int .i64 0)).bind fun t30 =>
 some ([t30], H5))
 else some ([Value.tuple #[]], H5)) fun vs3 H6 =>
 (gval true t23).bind fun w4 => grpK (bif w4 then
 ((pickK (nthV 0 vs2) (.bool true) (nthV 0 vs3)).bind fun t31 =>
 some ([t31], H6))
 else some ([Value.tuple #[]], H6)) fun vs4 H7 =>
 (pickK t23 (nthV 0 vs4) (.bool false)).bind fun t32 =>
 (gval true t32).bind fun w5 => grpK (bif w5 then
 (some ([t12], H7))
 else some ([Value.tuple #[]], H7)) fun vs5 H8 =>
 (gval false (nthV 0 vs5)).bind fun w6 => grpK (bif w6 then
 ((iload false 1 cs1 10).bind fun t38 =>
 (ibin .eql .no t38 (.int .i64 0)).bind fun t39 =>
 some ([t39], H8))
 else some ([Value.tuple #[]], H8)) fun vs6 H9 =>
 (gval true t32).bind fun w7 => grpK (bif w7 then
 ((pickK (nthV 0 vs5) (.bool true) (nthV 0 vs6)).bind fun t40 =>
 some ([t40], H9))
 else some ([Value.tuple #[]], H9)) fun vs7 H10 =>
 (pickK t32 (nthV 0 vs7) (.bool false)).bind fun t41 =>
 (gval true t41).bind fun w8 => grpK (bif w8 then
 (some ([t13], H10))
 else some ([Value.tuple #[]], H10)) fun vs8 H11 =>
 (gval false (nthV 0 vs8)).bind fun w9 => grpK (bif w9 then
 ((iload false 1 cs1 11).bind fun t47 =>
 (ibin .eql .no t47 (.int .i64 0)).bind fun t48 =>
 some ([t48], H11))
 else some ([Value.tuple #[]], H11)) fun vs9 H12 =>
 (gval true t41).bind fun w10 => grpK (bif w10 then
 ((pickK (nthV 0 vs8) (.bool true) (nthV 0 vs9)).bind fun t49 =>
 some ([t49], H12))
 else some ([Value.tuple #[]], H12)) fun vs10 H13 =>
 (pickK t41 (nthV 0 vs10) (.bool false)).bind fun t50 =>
 some (.ret t50, H13))
def F275 (N lim : Nat) (a0 : Value) (H : IHeap) : RV := B275 N (F307 N) (F308 N) (F309 N) lim a0 H
def G275 (N : Nat) : G := w1 (F275 N)
theorem eq275 (N : Nat) (g307 : RF1) (g308 : RF1) (g309 : RF1) (lim : Nat) (a0 : Value) (H : IHeap) : ifun Tryz.prog { fn := envOf [(307, Ideal.w1 g307), (308, Ideal.w1 g308), (309, Ideal.w1 g309)], wr := [] } { promo := [1], share := false } N (okOf Tryz.prog { promo := [1], share := false } []) Tryz.f275 (.seq (.region []) (.seq (.region []) (.seq (.region [[18]]) (.seq (.region [[26], [30], [31], [35], [39], [40], [44], [48], [49]]) .leaf)))) lim [a0] H = B275 N g307 g308 g309 lim a0 H := by kernel_rfl
theorem sim275 (N : Nat) : SimF Tryz.prog 275 (G275 N) := by
  refine SimF.gen [(307, G307 N), (308, G308 N), (309, G309 N)] [] { promo := [1], share := false } N (.seq (.region []) (.seq (.region []) (.seq (.region [[18]]) (.seq (.region [[26], [30], [31], [35], [39], [40], [44], [48], [49]]) .leaf)))) Tryz.func275 (by kernel_rfl) (by kernel_rfl) (env_cons (sim307 N) (env_cons (sim308 N) (env_cons (sim309 N) env_nil))) ?_
  intro lim args H r h
  unfold G275 w1 at h
  split at h
  · exact (eq275 N (F307 N) (F308 N) (F309 N) lim _ H).trans h
  · simp at h
end Go.Ideal
