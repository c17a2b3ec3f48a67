/- This text proves that WorldFatal answers true on the ideal machine, whatever its arguments. No conditions. -/
import Derived.Test.YtpiddcbddilamaaGreatDoorFi
import Derived.KernelRfl
namespace Go.Ideal
open Go.Proofs
set_option maxRecDepth 1000000
set_option linter.unusedVariables false
def Pre (N : Nat) (g4 : RF0) (g5 : RF1) (g6 : RF2) (g7 : RF0) (g8 : RF2) (lim : Nat) (code0 spawn1 : Value) (H : IHeap) : Option (J × IHeap) :=
 (callK (g4 lim H) fun t10 H1 =>
 (iun .not t10).bind fun t11 =>
 (boolK t11 fun b1 => bif b1 then
 (some (.ret (.bool false), H1))
 else
 (istore false 1 [(.int .i64 0)] 0 (.int .i64 1)).bind fun cs1 =>
 (istore false 1 [(.slice none 0 0)] 0 (slc 1 H1.next 0 1 2)).bind fun cs2 =>
 (istore true 1 [(.slice none 0 0)] 0 (.agg ⟨cs2⟩)).bind fun cs3 =>
 (istore false 1 [(.int .i64 0), (.int .i64 0), (.int .i64 0), (.int .i64 0)] 0 (.int .i64 23)).bind fun cs4 =>
 (istore false 1 cs4 2 (.int .i64 1)).bind fun cs5 =>
 (istore false 1 [(.int .i64 0), (.int .i64 0), (.int .i64 0), (.int .i64 0)] 0 (.int .i64 28)).bind fun cs6 =>
 (istore false 1 [(.int .i64 0), (.int .i64 0), (.int .i64 0), (.int .i64 0)] 0 (.int .i64 9)).bind fun cs7 =>
 (istore false 1 cs7 2 (.int .i64 1)).bind fun cs8 =>
 (istore true 4 [(.int .i64 0), (.int .i64 0), (.int .i64 0), (.int .i64 0), (.int .i64 0), (.int .i64 0), (.int .i64 0), (.int .i64 0), (.int .i64 0), (.int .i64 0), (.int .i64 0), (.int .i64 0)] 0 (.agg ⟨cs5⟩)).bind fun cs9 =>
 (istore true 4 cs9 4 (.agg ⟨cs6⟩)).bind fun cs10 =>
 (istore true 4 cs10 8 (.agg ⟨cs8⟩)).bind fun cs11 =>
 (istore false 1 [(.slice none 0 0), (.int .i64 0), (.int .i64 0), (.slice none 0 0), (.slice none 0 0)] 2 (.int .i64 2)).bind fun cs12 =>
 (istore false 1 cs12 4 (slc 4 ((H1.push (.cells cs1 0)).push (.cells cs3 0)).next 0 3 4)).bind fun cs13 =>
 callK (g5 lim code0 (((H1.push (.cells cs1 0)).push (.cells cs3 0)).push (.cells cs11 0))) fun t21 H2 =>
 (istore false 1 [(.int .i64 0), (.int .i64 0), (.int .i64 0), (.int .i64 0)] 0 (.int .i64 1)).bind fun cs14 =>
 (istore false 1 cs14 1 (.int .i64 0)).bind fun cs15 =>
 (istore false 1 cs15 2 t21).bind fun cs16 =>
 (istore false 1 [(.int .i64 0), (.int .i64 0), (.int .i64 0), (.int .i64 0)] 0 (.int .i64 11)).bind fun cs17 =>
 (istore false 1 cs17 1 (.int .i64 1)).bind fun cs18 =>
 (istore false 1 [(.int .i64 0), (.int .i64 0), (.int .i64 0), (.int .i64 0)] 0 (.int .i64 25)).bind fun cs19 =>
 (istore false 1 cs19 1 (.int .i64 0)).bind fun cs20 =>
 (istore false 1 cs20 2 (.int .i64 1)).bind fun cs21 =>
 (istore true 4 [(.int .i64 0), (.int .i64 0), (.int .i64 0), (.int .i64 0), (.int .i64 0), (.int .i64 0), (.int .i64 0), (.int .i64 0), (.int .i64 0), (.int .i64 0), (.int .i64 0), (.int .i64 0)] 0 (.agg ⟨cs16⟩)).bind fun cs22 =>
 (istore true 4 cs22 4 (.agg ⟨cs18⟩)).bind fun cs23 =>
 (istore true 4 cs23 8 (.agg ⟨cs21⟩)).bind fun cs24 =>
 (istore false 1 [(.slice none 0 0), (.int .i64 0), (.int .i64 0), (.slice none 0 0), (.slice none 0 0)] 2 (.int .i64 2)).bind fun cs25 =>
 (istore false 1 cs25 4 (slc 4 H2.next 0 3 4)).bind fun cs26 =>
 (istore true 5 [(.slice none 0 0), (.int .i64 0), (.int .i64 0), (.slice none 0 0), (.slice none 0 0), (.slice none 0 0), (.int .i64 0), (.int .i64 0), (.slice none 0 0), (.slice none 0 0)] 0 (.agg ⟨cs13⟩)).bind fun cs27 =>
 (istore true 5 cs27 5 (.agg ⟨cs26⟩)).bind fun cs28 =>
 (istore false 1 [(.slice none 0 0), (.slice none 0 0), (.slice none 0 0)] 1 (slc 1 (H1.push (.cells cs1 0)).next 0 1 2)).bind fun cs29 =>
 (istore false 1 cs29 2 (slc 5 (H2.push (.cells cs24 0)).next 0 2 3)).bind fun cs30 =>
 (istore true 3 [(.slice none 0 0), (.slice none 0 0), (.slice none 0 0)] 0 (.agg ⟨cs30⟩)).bind fun cs31 =>
 (iload true 3 cs31 0).bind fun t30 =>
 callK (g7 lim ((H2.push (.cells cs24 0)).push (.cells cs28 0))) fun t31 H3 =>
 callK (g6 lim t30 t31 H3) fun t32 H4 =>
 (iextract 0 t32).bind fun t33 =>
 (iextract 1 t32).bind fun t34 =>
 (iextract 2 t32).bind fun t35 =>
 (iun .not t35).bind fun t37 =>
 (gval false t37).bind fun w1 => grpK (bif w1 then
 ((ibin .eql .ptr t33 (.pointer none)).bind fun t40 =>
 some ([t40], H4))
 else some ([Value.tuple #[]], H4)) fun vs1 H5 =>
 (pickK t37 (.bool true) (nthV 0 vs1)).bind fun t41 =>
 (boolK t41 fun b3 => bif b3 then
 (some (.ret (.bool false), H5))
 else
 (istore true 2 [(.int .i64 0), (.int .i64 0)] 0 (.agg ⟨[(.int .i64 0), (.int .i64 0)]⟩)).bind fun cs32 =>
 callK (g8 lim t33 (slc 2 H5.next 0 1 2) (H5.push (.cells cs32 0))) fun t45 H6 =>
 catchK 0 (iloop (fun vs2 H7 =>
 (ibin .lss .no (nthV 0 vs2) (.int .i64 6)).bind fun t47 =>
 (boolK t47 fun b4 => bif b4 then
 (catchK 1 ((istore false 1 [(.int .i64 0), (.int .i64 0)] 1 (.int .i64 1)).bind fun cs33 =>
 (istore true 2 [(.int .i64 0), (.int .i64 0)] 0 (.agg ⟨cs33⟩)).bind fun cs34 =>
 callK (g8 lim t33 (slc 2 H7.next 0 1 2) (H7.push (.cells cs34 0))) fun t53 H8 =>
 joinK (boolK spawn1 fun b5 => bif b5 then
 ((istore true 2 [(.int .i64 0), (.int .i64 0)] 0 (.agg ⟨[(.int .i64 0), (.int .i64 0)]⟩)).bind fun cs35 =>
 callK (g8 lim t33 (slc 2 H8.next 0 1 2) (H8.push (.cells cs35 0))) fun t58 H9 =>
 some (.norm ([] ++ []), H9))
 else
 some (.norm ([] ++ []), H8)) fun vs3 H10 =>
 some (.norm ([] ++ []), H10)) fun vs4 H11 =>
 (ibin .add .no (nthV 0 vs2) (.int .i64 1)).bind fun t49 =>
 some (.norm ([t49] ++ []), H11))
 else
 some (.exit 0 ([] ++ []), H7))) N ([(.int .i64 0)] ++ []) H6) fun vs5 H12 =>
 some (.norm [t33], H12))))

def gn (n : Int) : RF1 := fun _ _ H => some (.int .i64 n, H)
def Tail (g5 : RF1) (g8 : RF2) (g9 : RF1) (g10 : RF1) (lim : Nat) (code0 : Value) (t33 : Value) (H12 : IHeap) : RV :=
 retK (callK (g9 lim t33 H12) fun t60 H13 =>
 (ibin .eql .no t60 (.int .i64 2)).bind fun t61 =>
 (gval true t61).bind fun w2 => grpK (bif w2 then
 (callK (g10 lim t33 H13) fun t64 H15 =>
 callK (g5 lim code0 H15) fun t66 H16 =>
 (ibin .eql .no t64 t66).bind fun t67 =>
 some ([t67], H16))
 else some ([Value.tuple #[]], H13)) fun vs6 H14 =>
 (pickK t61 (nthV 0 vs6) (.bool false)).bind fun t68 =>
 (gval true t68).bind fun w3 => grpK (bif w3 then
 ((istore true 2 [(.int .i64 0), (.int .i64 0)] 0 (.agg ⟨[(.int .i64 0), (.int .i64 0)]⟩)).bind fun cs36 =>
 callK (g8 lim t33 (slc 2 H14.next 0 1 2) (H14.push (.cells cs36 0))) fun t73 H18 =>
 (ibin .eql .no t73 (.int .i64 0)).bind fun t74 =>
 some ([t74], H18))
 else some ([Value.tuple #[]], H14)) fun vs7 H17 =>
 (pickK t68 (nthV 0 vs7) (.bool false)).bind fun t75 =>
 some (.ret t75, H17))
def st (n : Int) (b : Bool) : Value × IHeap := match Pre 20 (F4 20) (gn n) (F6 20) (F7 20) (F8 20) 0 (.int .i64 0) (.bool b) ⟨0, .nil⟩ with | some (.norm [t], H) => (t, H) | _ => (.nilFunc, ⟨0, .nil⟩)
def isOk (v : Value) : RV → Bool
  | some (x, _) => veq x v
  | none => false
theorem red (n : Int) (b : Bool) (c : Value) (g9 g10 : RF1) : B3 20 (F4 20) (gn n) (F6 20) (F7 20) (F8 20) g9 g10 0 c (.bool b) ⟨0, .nil⟩ = Tail (gn n) (F8 20) g9 g10 0 c (st n b).1 (st n b).2 := by
  cases b
  · kernel_rfl
  · kernel_rfl

def probe (r : RV) : Option Value := r.bind fun x => some x.1
theorem f9 (n : Int) (b : Bool) : F9 20 0 (st n b).1 (st n b).2 = some (.int .i64 2, (st n b).2) := by cases b <;> kernel_rfl
def W (n : Int) : Int := IntKind.i64.wrap (IntKind.i32.wrap (IntKind.u32.wrap (IntKind.u64.wrap n)))
theorem f10 (n : Int) (b : Bool) : F10 20 0 (st n b).1 (st n b).2 = some (.int .i64 (W n), (st n b).2) := by cases b <;> kernel_rfl
theorem W_eq {n : Int} (h1 : -2147483648 ≤ n) (h2 : n < 2147483648) : W n = n := by
  unfold W IntKind.wrap
  simp only [IntKind.bits, IntKind.signed]
  simp
  omega
theorem f8 (n : Int) (b : Bool) : isOk (.int .i64 0) (F8 20 0 (st n b).1 (slc 2 (st n b).2.next 0 1 2) ((st n b).2.push (.cells [.int .i64 0, .int .i64 0] 0))) = true := by cases b <;> kernel_rfl
theorem isOk_some {v : Value} {r : RV} (h : isOk v r = true) : ∃ H, r = some (v, H) := by
  cases r with
  | none => simp [isOk] at h
  | some x => obtain ⟨y, H⟩ := x; exact ⟨H, by rw [veq_eq h]⟩
theorem tail_true {n : Int} {c t : Value} {H : IHeap} (hn : W n = n) (h9 : F9 20 0 t H = some (.int .i64 2, H)) (h10 : F10 20 0 t H = some (.int .i64 (W n), H))
    (h8 : ∃ H18, F8 20 0 t (slc 2 H.next 0 1 2) (H.push (.cells [.int .i64 0, .int .i64 0] 0)) = some (.int .i64 0, H18)) : ∃ H', Tail (gn n) (F8 20) (F9 20) (F10 20) 0 c t H = some (.bool true, H') := by
  obtain ⟨H18, h8⟩ := h8
  refine ⟨H18, ?_⟩
  rw [hn] at h10
  unfold Tail
  simp only [h9, h10, gn, callK, grpK, Option.bind_some, ibin, iint, gval, nthV, pickK, retK, beq_self_eq_true, cond_true, istore, asAggN]
  simp [h8]
theorem wrap_pos {m : Nat} (h : m < 4294967296) : IntKind.i64.wrap (m : Int) = m := by
  unfold IntKind.wrap
  simp only [IntKind.bits, IntKind.signed]
  simp
  omega
theorem f5_of (c : Int) : ∃ n : Int, -2147483648 ≤ n ∧ n < 2147483648 ∧ ∀ l H, F5 20 l (.int .i64 c) H = some (.int .i64 n, H) := by
  generalize hm : (BitVec.ofInt IntKind.i64.bits c &&& BitVec.ofInt IntKind.i64.bits 4294967295).toNat = m
  have hlt : m < 4294967296 := by
    rw [← hm, BitVec.toNat_and]
    exact Nat.lt_of_le_of_lt Nat.and_le_right (by decide)
  have h1 : ibin .and .no (.int .i64 c) (.int .i64 4294967295) = some (.int .i64 (m : Int)) := by rw [← wrap_pos hlt, ← hm]; rfl
  have h2 : ibin .geq .no (.int .i64 (m : Int)) (.int .i64 2147483648) = some (.bool (decide ((m : Int) ≥ 2147483648))) := rfl
  have h3 : ibin .sub .no (.int .i64 (m : Int)) (.int .i64 4294967296) = some (.int .i64 (IntKind.i64.wrap ((m : Int) - 4294967296))) := rfl
  cases hb : decide ((m : Int) ≥ 2147483648) with
  | true =>
    rw [hb] at h2
    have hb := of_decide_eq_true hb
    have h4 : IntKind.i64.wrap ((m : Int) - 4294967296) = (m : Int) - 4294967296 := by
      unfold IntKind.wrap
      simp only [IntKind.bits, IntKind.signed]
      simp
      omega
    rw [h4] at h3
    refine ⟨(m : Int) - 4294967296, by omega, by omega, fun l H => ?_⟩
    simp only [F5, B5, h1, h2, h3, boolK, retK, Option.bind_some, cond_true]
  | false =>
    rw [hb] at h2
    have hb := of_decide_eq_false hb
    refine ⟨m, by omega, by omega, fun l H => ?_⟩
    simp only [F5, B5, h1, h2, boolK, retK, Option.bind_some, cond_false]
theorem f3_true (c : Int) (b : Bool) : ∃ H', F3 20 0 (.int .i64 c) (.bool b) ⟨0, .nil⟩ = some (.bool true, H') := by
  obtain ⟨n, n1, n2, h5⟩ := f5_of c
  have e : F3 20 0 (.int .i64 c) (.bool b) ⟨0, .nil⟩ = B3 20 (F4 20) (gn n) (F6 20) (F7 20) (F8 20) (F9 20) (F10 20) 0 (.int .i64 c) (.bool b) ⟨0, .nil⟩ := by
    unfold F3 B3
    simp only [h5, gn]
  rw [e, red]
  exact tail_true (W_eq n1 n2) (f9 n b) (f10 n b) (isOk_some (f8 n b))
def fuel : Nat := 20
theorem law_true (a0 : Int) (a1 : Bool) (w0 : (Lit.int .i64 a0).wf = true) : ∃ H', G3 fuel 0 [.int .i64 a0, .bool a1] ⟨0, .nil⟩ = some (.bool true, H') := f3_true a0 a1
end Go.Ideal
