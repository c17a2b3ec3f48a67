/- This text proves that WorldMany answers true on the ideal machine, whatever its arguments. No conditions. -/
import Derived.Test.YtganefjdidncbaaGreatDoorFi
import Derived.KernelRfl
namespace Go.Ideal
open Go.Proofs
set_option maxRecDepth 1000000
set_option linter.unusedVariables false
def Pre (N : Nat) (g4 : RF0) (g5 : RF2) (g6 : RF0) (lim : Nat) (out0 : Value) (H : IHeap) : Option (J × IHeap) :=
 (callK (g4 lim H) fun t10 H1 =>
 (iun .not t10).bind fun t11 =>
 (boolK t11 fun b1 => bif b1 then
 (some (.ret (.bool false), H1))
 else
 (istore false 1 [(.int .i64 0), (.int .i64 0), (.int .i64 0), (.int .i64 0)] 0 (.int .i64 23)).bind fun cs1 =>
 (istore false 1 cs1 2 (.int .i64 1)).bind fun cs2 =>
 (istore true 4 [(.int .i64 0), (.int .i64 0), (.int .i64 0), (.int .i64 0)] 0 (.agg ⟨cs2⟩)).bind fun cs3 =>
 joinK (boolK out0 fun b2 => bif b2 then
 ((istore false 1 [(.int .i64 0), (.int .i64 0), (.int .i64 0), (.int .i64 0)] 0 (.int .i64 29)).bind fun cs4 =>
 (istore true 4 cs3 0 (.agg ⟨cs4⟩)).bind fun cs5 =>
 some (.norm ([] ++ [.agg ⟨cs5⟩]), H1))
 else
 some (.norm ([] ++ [.agg ⟨cs3⟩]), H1)) fun vs1 H2 =>
 (istore false 1 [(.int .i64 0), (.int .i64 0), (.int .i64 0), (.int .i64 0)] 0 (.int .i64 1)).bind fun cs6 =>
 (istore false 1 cs6 2 (.int .i64 3)).bind fun cs7 =>
 (aggs (nthV 0 (vs1.drop 0))).bind fun cs8 =>
 (iload true 4 cs8 0).bind fun t16 =>
 (istore false 1 [(.int .i64 0), (.int .i64 0), (.int .i64 0), (.int .i64 0)] 0 (.int .i64 9)).bind fun cs9 =>
 (istore false 1 cs9 2 (.int .i64 1)).bind fun cs10 =>
 (istore true 4 [(.int .i64 0), (.int .i64 0), (.int .i64 0), (.int .i64 0), (.int .i64 0), (.int .i64 0), (.int .i64 0), (.int .i64 0), (.int .i64 0), (.int .i64 0), (.int .i64 0), (.int .i64 0)] 0 (.agg ⟨cs7⟩)).bind fun cs11 =>
 (istore true 4 cs11 4 t16).bind fun cs12 =>
 (istore true 4 cs12 8 (.agg ⟨cs10⟩)).bind fun cs13 =>
 (istore false 1 [(.slice none 0 0), (.int .i64 0), (.int .i64 0), (.slice none 0 0), (.slice none 0 0)] 2 (.int .i64 1)).bind fun cs14 =>
 (istore false 1 cs14 4 (slc 4 H2.next 0 3 4)).bind fun cs15 =>
 (istore false 1 [(.int .i64 0), (.int .i64 0), (.int .i64 0), (.int .i64 0)] 0 (.int .i64 28)).bind fun cs16 =>
 (istore false 1 [(.int .i64 0), (.int .i64 0), (.int .i64 0), (.int .i64 0)] 0 (.int .i64 9)).bind fun cs17 =>
 (istore true 4 [(.int .i64 0), (.int .i64 0), (.int .i64 0), (.int .i64 0), (.int .i64 0), (.int .i64 0), (.int .i64 0), (.int .i64 0)] 0 (.agg ⟨cs16⟩)).bind fun cs18 =>
 (istore true 4 cs18 4 (.agg ⟨cs17⟩)).bind fun cs19 =>
 (istore false 1 [(.slice none 0 0), (.int .i64 0), (.int .i64 0), (.slice none 0 0), (.slice none 0 0)] 4 (slc 4 (H2.push (.cells cs13 0)).next 0 2 3)).bind fun cs20 =>
 (istore true 5 [(.slice none 0 0), (.int .i64 0), (.int .i64 0), (.slice none 0 0), (.slice none 0 0), (.slice none 0 0), (.int .i64 0), (.int .i64 0), (.slice none 0 0), (.slice none 0 0)] 0 (.agg ⟨cs15⟩)).bind fun cs21 =>
 (istore true 5 cs21 5 (.agg ⟨cs20⟩)).bind fun cs22 =>
 (istore false 1 [(.slice none 0 0), (.slice none 0 0), (.slice none 0 0)] 2 (slc 5 ((H2.push (.cells cs13 0)).push (.cells cs19 0)).next 0 2 3)).bind fun cs23 =>
 (istore true 3 [(.slice none 0 0), (.slice none 0 0), (.slice none 0 0)] 0 (.agg ⟨cs23⟩)).bind fun cs24 =>
 (iload true 3 cs24 0).bind fun t27 =>
 callK (g6 lim (((H2.push (.cells cs13 0)).push (.cells cs19 0)).push (.cells cs22 0))) fun t28 H3 =>
 callK (g5 lim t27 t28 H3) fun t29 H4 =>
 (iextract 0 t29).bind fun t30 =>
 (iextract 1 t29).bind fun t31 =>
 (iextract 2 t29).bind fun t32 =>
 (iun .not t32).bind fun t34 =>
 (gval false t34).bind fun w1 => grpK (bif w1 then
 ((ibin .eql .ptr t30 (.pointer none)).bind fun t37 =>
 some ([t37], H4))
 else some ([Value.tuple #[]], H4)) fun vs2 H5 =>
 (pickK t34 (.bool true) (nthV 0 vs2)).bind fun t38 =>
 (boolK t38 fun b4 => bif b4 then
 (some (.ret (.bool false), H5))
 else
 some (.norm [t30], H5))))
def Body (g7 : RF1) (g8 : RF2) (lim : Nat) (t30 : Value) (vs3 : List Value) (H6 : IHeap) : Option (J × IHeap) :=
 callK (g7 lim t30 H6) fun t40 H7 =>
 (ibin .eql .no t40 (.int .i64 0)).bind fun t41 =>
 (gval true t41).bind fun w2 => grpK (bif w2 then
 ((ibin .lss .no (nthV 0 vs3) (.int .i64 3000)).bind fun t44 =>
 some ([t44], H7))
 else some ([Value.tuple #[]], H7)) fun vs4 H8 =>
 (pickK t41 (nthV 0 vs4) (.bool false)).bind fun t45 =>
 (boolK t45 fun b6 => bif b6 then
 (catchK 1 ((istore true 2 [(.int .i64 0), (.int .i64 0)] 0 (.agg ⟨[(.int .i64 0), (.int .i64 0)]⟩)).bind fun cs25 =>
 callK (g8 lim t30 (slc 2 H8.next 0 1 2) (H8.push (.cells cs25 0))) fun t49 H9 =>
 (ibin .add .no (nthV 0 vs3) (.int .i64 1)).bind fun t51 =>
 some (.norm ([t51] ++ []), H9)) fun vs5 H10 =>
 some (.norm ([(nthV 0 vs5)] ++ []), H10))
 else
 some (.exit 0 ([(nthV 0 vs3)] ++ []), H8))

def TailF (g9 : RF1) (lim : Nat) (t30 : Value) (out0 : Value) (L : Option (J × IHeap)) : RV :=
 retK (catchK 0 L fun vs6 H11 =>
 callK (g9 lim t30 H11) fun t53 H12 =>
 (istore true 7 [(.int .i64 0), (.int .i64 0), (.int .i64 0), (.slice none 0 0), (.slice none 0 0), (.slice none 0 0), (.slice none 0 0)] 0 t53).bind fun cs26 =>
 (boolK out0 fun b7 => bif b7 then
 ((iload false 1 cs26 0).bind fun t56 =>
 (ibin .eql .no t56 (.int .i64 5)).bind fun t57 =>
 (gval true t57).bind fun w3 => grpK (bif w3 then
 ((iload false 1 cs26 5).bind fun t60 =>
 (ilenS t60).bind fun t61 =>
 (ibin .eql .no t61 (.int .i64 500)).bind fun t62 =>
 some ([t62], H12))
 else some ([Value.tuple #[]], H12)) fun vs7 H13 =>
 (pickK t57 (nthV 0 vs7) (.bool false)).bind fun t63 =>
 (gval true t63).bind fun w4 => grpK (bif w4 then
 ((ibin .eql .no (nthV 0 vs6) (.int .i64 1002)).bind fun t66 =>
 some ([t66], H13))
 else some ([Value.tuple #[]], H13)) fun vs8 H14 =>
 (pickK t63 (nthV 0 vs8) (.bool false)).bind fun t67 =>
 some (.ret t67, H14))
 else
 (iload false 1 cs26 0).bind fun t69 =>
 (ibin .eql .no t69 (.int .i64 5)).bind fun t70 =>
 (gval true t70).bind fun w5 => grpK (bif w5 then
 ((iload false 1 cs26 3).bind fun t73 =>
 (ilenS t73).bind fun t74 =>
 (ibin .eql .no t74 (.int .i64 12)).bind fun t75 =>
 some ([t75], H12))
 else some ([Value.tuple #[]], H12)) fun vs9 H15 =>
 (pickK t70 (nthV 0 vs9) (.bool false)).bind fun t76 =>
 (gval true t76).bind fun w6 => grpK (bif w6 then
 ((ibin .eql .no (nthV 0 vs6) (.int .i64 24)).bind fun t79 =>
 some ([t79], H15))
 else some ([Value.tuple #[]], H15)) fun vs10 H16 =>
 (pickK t76 (nthV 0 vs10) (.bool false)).bind fun t80 =>
 some (.ret t80, H16)))
def w195 : Value := .pointer (some ⟨195, 0, none⟩)
def st : IHeap := match Pre 1100 (F4 1100) (F5 1100) (F6 1100) 0 (.bool true) ⟨0, .nil⟩ with | some (_, H) => H | _ => ⟨0, .nil⟩
theorem red (N : Nat) (g9 : RF1) : B3 N (F4 1100) (F5 1100) (F6 1100) (F7 1100) (F8 1100) g9 0 (.bool true) ⟨0, .nil⟩ = TailF g9 0 w195 (.bool true) (iloop (Body (F7 1100) (F8 1100) 0 w195) N [.int .i64 0] st) := by kernel_rfl
def isOk (v : Value) : RV → Bool
  | some (x, _) => veq x v
  | none => false
theorem isOk_some {v : Value} {r : RV} (h : isOk v r = true) : ∃ H, r = some (v, H) := by
  cases r with
  | none => simp [isOk] at h
  | some x => obtain ⟨y, H⟩ := x; exact ⟨H, by rw [veq_eq h]⟩
/-! ### Rounds of the loop -/
def rnd (x : List Value × IHeap) : Option (List Value × IHeap) :=
  match Body (F7 1100) (F8 1100) 0 w195 x.1 x.2 with
  | some (.norm vs, H) => some (vs, H)
  | _ => none
def rounds (k : Nat) (x : List Value × IHeap) : Option (List Value × IHeap) := Nat.rec (some x) (fun _ r => r.bind rnd) k
theorem rounds_loop : ∀ {k n : Nat} {x y : List Value × IHeap}, rounds k x = some y → iloop (Body (F7 1100) (F8 1100) 0 w195) (k + n) x.1 x.2 = iloop (Body (F7 1100) (F8 1100) 0 w195) n y.1 y.2 := by
  intro k
  induction k with
  | zero =>
    intro n x y h
    have e : x = y := Option.some.inj h
    subst e; rw [Nat.zero_add]
  | succ k ih =>
    intro n x y h
    obtain ⟨z, hz, h⟩ : ∃ z, rounds k x = some z ∧ rnd z = some y := by
      have : (rounds k x).bind rnd = some y := h
      rw [Option.bind_eq_some_iff] at this
      exact this
    have e : k + 1 + n = k + (n + 1) := by omega
    rw [e, ih hz]
    show joinK (Body (F7 1100) (F8 1100) 0 w195 z.1 z.2) (iloop (Body (F7 1100) (F8 1100) 0 w195) n) = _
    unfold rnd at h
    split at h
    · rename_i vs H hb
      rw [hb]
      cases h; rfl
    · simp at h
/-! ### Equal heaps -/
def vq : Value → Value → Bool
  | .int .u64 a, .int .u64 b => a == b
  | .func (.func f) a b, .func (.func g) c d => f == g && veqs a.toList c.toList && veqs b.toList d.toList
  | a, b => veq a b
theorem vq_eq {a b : Value} (h : vq a b = true) : a = b := by
  unfold vq at h
  split at h
  · rw [eq_of_beq h]
  · simp only [Bool.and_eq_true] at h
    have h1 := eq_of_beq h.1.1
    have h2 := veqs_eq h.1.2
    have h3 := veqs_eq h.2
    rename_i a b _ c d
    obtain ⟨a⟩ := a
    obtain ⟨b⟩ := b
    obtain ⟨c⟩ := c
    obtain ⟨d⟩ := d
    simp only at h2 h3
    rw [h1, h2, h3]
  · exact veq_eq h
def listQ {α : Type} (q : α → α → Bool) : List α → List α → Bool
  | [], [] => true
  | a :: l, b :: m => q a b && listQ q l m
  | _, _ => false
theorem listQ_eq {α : Type} {q : α → α → Bool} (hq : ∀ {a b}, q a b = true → a = b) : ∀ {l m : List α}, listQ q l m = true → l = m
  | [], [], _ => rfl
  | [], _ :: _, h => by simp [listQ] at h
  | _ :: _, [], h => by simp [listQ] at h
  | a :: l, b :: m, h => by
    simp only [listQ, Bool.and_eq_true] at h
    rw [hq h.1, listQ_eq hq h.2]
def intQ (a b : Int) : Bool := a == b
def entQ (a b : List Int × Value × Nat) : Bool := listQ intQ a.1 b.1 && vq a.2.1 b.2.1 && a.2.2 == b.2.2
theorem entQ_eq {a b : List Int × Value × Nat} (h : entQ a b = true) : a = b := by
  simp only [entQ, Bool.and_eq_true] at h
  obtain ⟨a1, a2, a3⟩ := a
  obtain ⟨b1, b2, b3⟩ := b
  have h1 := listQ_eq (fun h => eq_of_beq h) h.1.1
  have h2 := vq_eq h.1.2
  have h3 := eq_of_beq h.2
  simp only at h1 h2 h3
  rw [h1, h2, h3]
def objQ : IObj → IObj → Bool
  | .cells a f, .cells b g => listQ vq a b && f == g
  | .map a e c, .map a' e' c' => a == a' && listQ entQ e e' && c == c'
  | .fmap a e, .fmap a' e' => a == a' && listQ entQ e e'
  | .dead, .dead => true
  | _, _ => false
theorem objQ_eq {a b : IObj} (h : objQ a b = true) : a = b := by
  unfold objQ at h
  split at h
  · simp only [Bool.and_eq_true] at h
    rw [listQ_eq vq_eq h.1, eq_of_beq h.2]
  · simp only [Bool.and_eq_true] at h
    rw [eq_of_beq h.1.1, listQ_eq entQ_eq h.1.2, eq_of_beq h.2]
  · simp only [Bool.and_eq_true] at h
    rw [eq_of_beq h.1, listQ_eq entQ_eq h.2]
  · rfl
  · simp at h
def optQ : Option IObj → Option IObj → Bool
  | none, none => true
  | some a, some b => objQ a b
  | _, _ => false
def trQ : Tr IObj → Tr IObj → Bool
  | .nil, .nil => true
  | .node l v r, .node l' v' r' => optQ v v' && trQ l l' && trQ r r'
  | _, _ => false
theorem trQ_eq : ∀ {a b : Tr IObj}, trQ a b = true → a = b
  | .nil, .nil, _ => rfl
  | .nil, .node _ _ _, h => by simp [trQ] at h
  | .node _ _ _, .nil, h => by simp [trQ] at h
  | .node l v r, .node l' v' r', h => by
    simp only [trQ, Bool.and_eq_true] at h
    rw [trQ_eq h.1.2, trQ_eq h.2]
    have : v = v' := by
      have h := h.1.1
      cases v <;> cases v' <;> simp only [optQ] at h
      · rfl
      · simp at h
      · simp at h
      · rw [objQ_eq h]
    rw [this]
def chk (k : Nat) (x : List Value × IHeap) (y : List Value × IHeap) : Bool := match rounds k x with
  | some (vs, H) => listQ vq vs y.1 && H.next == y.2.next && trQ H.tr y.2.tr
  | none => false
theorem chk_rounds {k : Nat} {x y : List Value × IHeap} (h : chk k x y = true) : rounds k x = some y := by
  unfold chk at h
  split at h
  · rename_i vs H e
    simp only [Bool.and_eq_true] at h
    obtain ⟨ys, n, t⟩ := y
    obtain ⟨m, u⟩ := H
    have h1 := listQ_eq vq_eq h.1.1
    have h2 := eq_of_beq h.1.2
    have h3 := trQ_eq h.2
    simp only at h1 h2 h3
    rw [e, h1, h2, h3]
  · simp at h
/-! ### The heap behind 3 + 2 t rounds -/
def ways : IObj := .fmap 2 [([0], .func (.func 16) #[.pointer (some ⟨195, 0, none⟩)] #[], 0), ([1], .func (.func 17) #[.pointer (some ⟨195, 0, none⟩)] #[], 0), ([2], .func (.func 18) #[.pointer (some ⟨195, 0, none⟩)] #[], 0), ([3], .func (.func 19) #[.pointer (some ⟨195, 0, none⟩)] #[], 0), ([4], .func (.func 20) #[.pointer (some ⟨195, 0, none⟩)] #[], 0), ([5], .func (.func 21) #[.pointer (some ⟨195, 0, none⟩)] #[], 0)]
def steps3 : IObj := .fmap 3 [([0, 0], .int .i64 1, 0), ([1, 1], .int .i64 2, 0), ([1, 2], .int .i64 3, 0), ([2, 3], .int .i64 0, 0), ([3, 3], .int .i64 0, 0)]
def threes (n : Nat) : List Value := Nat.rec [] (fun _ l => .int .i64 3 :: l) n
def world (t : Nat) : IObj := .cells [.slice none 0 0, .slice none 0 0, .slice (some ⟨186, 0, some 5⟩) 2 3, .int .i64 8, .int .i64 16, .int .i64 512, .int .i64 40, .int .i64 8, .pointer (some ⟨179, 0, none⟩), .pointer (some ⟨192, 0, none⟩), .pointer (some ⟨193, 0, none⟩), .int .u64 0, .int .i64 0, .int .i64 0, .int .i64 0, .slice (some ⟨205, 0, some 1⟩) 1 2, .slice (some ⟨206, 0, some 2⟩) 1 2, .slice (some ⟨194, 0, some 1⟩) 0 1, .slice (some ⟨266 + 6 * t, 0, some 1⟩) (t + 1) (t + 2), .int .i64 1, .int .i64 0, .int .i64 0] 0
def base : Tr IObj := .node (.node (.node (.node (.node (.node (.node (.node (.node (.nil) (some (.cells [.slice none 0 0, .slice none 0 0, .slice (some ⟨99, 0, some 5⟩) 2 3, .slice (some ⟨253, 0, some 1⟩) 2 3, .int .i64 512, .slice (some ⟨261, 0, some 4⟩) 1 2, .slice (some ⟨254, 0, some 1⟩) 0 1, .slice none 0 0, .slice none 0 0, .int .i64 0, .int .i64 0] 0)) (.nil)) (some (.cells [.int .i64 0] 0)) (.nil)) (some (.cells [.int .i64 0, .int .i64 0, .int .i64 0, .int .i64 0, .int .i64 0, .int .i64 0, .int .i64 0, .int .i64 0, .int .i64 0, .int .i64 0, .int .i64 0, .int .i64 0, .int .i64 0, .int .i64 0, .int .i64 0, .int .i64 0, .int .i64 0, .int .i64 0, .int .i64 0, .int .i64 0, .int .i64 0, .int .i64 0, .int .i64 0, .int .i64 0, .int .i64 0, .int .i64 0, .int .i64 0, .int .i64 0, .int .i64 0, .int .i64 0, .int .i64 0, .int .i64 0, .int .i64 0, .int .i64 0, .int .i64 0, .int .i64 0, .int .i64 0, .int .i64 0, .int .i64 0, .int .i64 0, .int .i64 0, .int .i64 0, .int .i64 0, .int .i64 0, .int .i64 0, .int .i64 0, .int .i64 0, .int .i64 0, .int .i64 0, .int .i64 0, .int .i64 0, .int .i64 0, .int .i64 0, .int .i64 0, .int .i64 0, .int .i64 0, .int .i64 0, .int .i64 0, .int .i64 0, .int .i64 0, .int .i64 0, .int .i64 0, .int .i64 0, .int .i64 0, .int .i64 0, .int .i64 0, .int .i64 0, .int .i64 0, .int .i64 0, .int .i64 0, .int .i64 0, .int .i64 0, .int .i64 0, .int .i64 0, .int .i64 0, .int .i64 0, .int .i64 0, .int .i64 0, .int .i64 0, .int .i64 0, .int .i64 0, .int .i64 0, .int .i64 0, .int .i64 0, .int .i64 0, .int .i64 0, .int .i64 0, .int .i64 0, .int .i64 0, .int .i64 0, .int .i64 0, .int .i64 0, .int .i64 0, .int .i64 0, .int .i64 0, .int .i64 0, .int .i64 0, .int .i64 0, .int .i64 0, .int .i64 0, .int .i64 0, .int .i64 0, .int .i64 0, .int .i64 0, .int .i64 0, .int .i64 0, .int .i64 0, .int .i64 0, .int .i64 0, .int .i64 0, .int .i64 0, .int .i64 0, .int .i64 0, .int .i64 0, .int .i64 0, .int .i64 0, .int .i64 0, .int .i64 0, .int .i64 0, .int .i64 0, .int .i64 0, .int .i64 0, .int .i64 0, .int .i64 0, .int .i64 0, .int .i64 0, .int .i64 0, .int .i64 0, .int .i64 0, .int .i64 0, .int .i64 0, .int .i64 0, .int .i64 0, .int .i64 0, .int .i64 0, .int .i64 0, .int .i64 0, .int .i64 0, .int .i64 0, .int .i64 0, .int .i64 0, .int .i64 0, .int .i64 0, .int .i64 0, .int .i64 0, .int .i64 0, .int .i64 0, .int .i64 0, .int .i64 0, .int .i64 0, .int .i64 0, .int .i64 0, .int .i64 0, .int .i64 0, .int .i64 0, .int .i64 0, .int .i64 0, .int .i64 0, .int .i64 0, .int .i64 0, .int .i64 0, .int .i64 0, .int .i64 0, .int .i64 0, .int .i64 0, .int .i64 0, .int .i64 0, .int .i64 0, .int .i64 0, .int .i64 0, .int .i64 0, .int .i64 0, .int .i64 0, .int .i64 0, .int .i64 0, .int .i64 0, .int .i64 0, .int .i64 0, .int .i64 0, .int .i64 0, .int .i64 0, .int .i64 0, .int .i64 0, .int .i64 0, .int .i64 0, .int .i64 0, .int .i64 0, .int .i64 0, .int .i64 0, .int .i64 0, .int .i64 0, .int .i64 0, .int .i64 0, .int .i64 0, .int .i64 0, .int .i64 0, .int .i64 0, .int .i64 0, .int .i64 0, .int .i64 0, .int .i64 0, .int .i64 0, .int .i64 0, .int .i64 0, .int .i64 0, .int .i64 0, .int .i64 0, .int .i64 0, .int .i64 0, .int .i64 0, .int .i64 0, .int .i64 0, .int .i64 0, .int .i64 0, .int .i64 0, .int .i64 0, .int .i64 0, .int .i64 0, .int .i64 0, .int .i64 0, .int .i64 0, .int .i64 0, .int .i64 0, .int .i64 0, .int .i64 0, .int .i64 0, .int .i64 0, .int .i64 0, .int .i64 0, .int .i64 0, .int .i64 0, .int .i64 0, .int .i64 0, .int .i64 0, .int .i64 0, .int .i64 0, .int .i64 0, .int .i64 0, .int .i64 0, .int .i64 0, .int .i64 0, .int .i64 0, .int .i64 0, .int .i64 0, .int .i64 0, .int .i64 0, .int .i64 0, .int .i64 0, .int .i64 0, .int .i64 0, .int .i64 0, .int .i64 0, .int .i64 0, .int .i64 0, .int .i64 0, .int .i64 0] 0)) (.node (.nil) (some (.map 3 [] 0)) (.nil))) (some (.cells [.int .i64 1] 0)) (.node (.node (.nil) (some (.cells [.slice none 0 0, .slice none 0 0, .slice (some ⟨99, 0, some 5⟩) 2 3, .int .i64 1, .map (some 110), .slice (some ⟨167, 1, some 1⟩) 0 1] 0)) (.nil)) (some (.dead)) (.node (.nil) (some (.cells [.int .i64 1] 0)) (.nil)))) (some (.dead)) (.node (.node (.node (.nil) (some (.cells [.int .i64 0] 0)) (.nil)) (some (.cells [.pointer (some ⟨74, 0, none⟩)] 0)) (.node (.nil) (some (.cells [.int .i64 0, .int .i64 3, .int .i64 0] 0)) (.nil))) (some (.cells [.int .i64 1] 0)) (.node (.node (.nil) (some (.map 3 [([1, 0], .agg #[.int .i64 28, .int .i64 0, .int .i64 0, .int .i64 0], 0), ([1, 1], .agg #[.int .i64 9, .int .i64 0, .int .i64 0, .int .i64 0], 1)] 2)) (.nil)) (some (.cells [.slice none 0 0, .slice none 0 0, .slice (some ⟨99, 0, some 5⟩) 2 3, .int .i64 0, .map (some 110), .slice (some ⟨132, 1, some 1⟩) 0 1] 0)) (.node (.nil) (some (.cells [.bool true, .bool true] 0)) (.nil))))) (some (.cells [.int .i64 0] 0)) (.node (.node (.node (.node (.node (.nil) (some (.fmap 2 [([0], .func (.func 16) #[.pointer (some ⟨195, 0, none⟩)] #[], 0), ([1], .func (.func 17) #[.pointer (some ⟨195, 0, none⟩)] #[], 0), ([2], .func (.func 18) #[.pointer (some ⟨195, 0, none⟩)] #[], 0), ([3], .func (.func 19) #[.pointer (some ⟨195, 0, none⟩)] #[], 0), ([4], .func (.func 20) #[.pointer (some ⟨195, 0, none⟩)] #[], 0), ([5], .func (.func 21) #[.pointer (some ⟨195, 0, none⟩)] #[], 0)])) (.nil)) (some (.map 3 [([0, 0], .agg #[.int .i64 1, .int .i64 0, .int .i64 3, .int .i64 0], 0), ([0, 1], .agg #[.int .i64 29, .int .i64 0, .int .i64 0, .int .i64 0], 1), ([0, 2], .agg #[.int .i64 9, .int .i64 0, .int .i64 1, .int .i64 0], 2)] 3)) (.nil)) (some (.cells [.int .i64 0, .int .i64 0, .int .i64 5, .int .i64 0, .int .i64 0, .int .i64 0, .int .i64 0, .int .i64 0, .int .i64 0, .int .i64 0, .int .i64 0, .int .i64 0, .int .i64 0, .int .i64 0, .int .i64 0, .int .i64 0] 0)) (.node (.nil) (some (.map 3 [] 0)) (.nil))) (some (.map 3 [([0, 0], .agg #[.int .i64 1, .int .i64 0, .int .i64 5, .int .i64 0], 0), ([0, 1], .agg #[.int .i64 29, .int .i64 0, .int .i64 0, .int .i64 0], 1), ([0, 2], .agg #[.int .i64 27, .int .i64 0, .int .i64 0, .int .i64 0], 2)] 3)) (.node (.node (.nil) (some (.cells [.int .i64 1] 0)) (.nil)) (some (.cells [.int .i64 0] 0)) (.node (.nil) (some (.cells [.int .i64 1] 0)) (.nil)))) (some (.dead)) (.node (.node (.node (.nil) (some (.map 3 [([0, 0], .agg #[.int .i64 1, .int .i64 0, .int .i64 3, .int .i64 0], 0), ([0, 1], .agg #[.int .i64 29, .int .i64 0, .int .i64 0, .int .i64 0], 1), ([0, 2], .agg #[.int .i64 9, .int .i64 0, .int .i64 1, .int .i64 0], 2)] 3)) (.nil)) (some (.fmap 3 [([0, 0], .int .i64 1, 0), ([1, 1], .int .i64 2, 0), ([1, 2], .int .i64 3, 0), ([2, 3], .int .i64 0, 0), ([3, 3], .int .i64 0, 0)])) (.node (.nil) (some (.cells [.int .i64 1] 0)) (.nil))) (some (.cells [.int .i64 1] 0)) (.node (.node (.nil) (some (.dead)) (.nil)) (some (.cells [.int .i64 0] 0)) (.node (.nil) (some (.cells [] 0)) (.nil)))))) (some (.map 0 [([1], .int .i64 1, 0)] 1)) (.node (.node (.node (.node (.node (.node (.nil) (some (.cells [] 0)) (.nil)) (some (.cells [.int .i64 1] 0)) (.nil)) (some (.cells [.int .i64 8, .slice none 0 0, .bool false] 0)) (.node (.nil) (some (.dead)) (.nil))) (some (.map 3 [([0, 0], .agg #[.int .i64 1, .int .i64 0, .int .i64 5, .int .i64 0], 0), ([0, 1], .agg #[.int .i64 29, .int .i64 0, .int .i64 0, .int .i64 0], 1), ([0, 2], .agg #[.int .i64 27, .int .i64 0, .int .i64 0, .int .i64 0], 2)] 3)) (.node (.node (.nil) (some (.cells [] 0)) (.nil)) (some (.cells [.slice none 0 0, .int .i64 0, .int .i64 1, .slice none 0 0, .slice (some ⟨97, 0, some 4⟩) 3 4, .slice none 0 0, .int .i64 0, .int .i64 0, .slice none 0 0, .slice (some ⟨98, 0, some 4⟩) 2 3] 0)) (.node (.nil) (some (.cells [.int .i64 1] 0)) (.nil)))) (some (.cells [.int .i64 0] 0)) (.node (.node (.node (.nil) (some (.map 3 [([0, 0], .agg #[.int .i64 1, .int .i64 0, .int .i64 3, .int .i64 0], 0), ([0, 1], .agg #[.int .i64 29, .int .i64 0, .int .i64 0, .int .i64 0], 1), ([0, 2], .agg #[.int .i64 9, .int .i64 0, .int .i64 1, .int .i64 0], 2)] 3)) (.nil)) (some (.cells [.int .i64 5] 0)) (.node (.nil) (some (.cells [.int .i64 0, .int .i64 0, .int .i64 0] 0)) (.nil))) (some (.dead)) (.node (.node (.nil) (some (.cells [.map (some 110)] 0)) (.nil)) (some (.dead)) (.node (.nil) (some (.cells [] 0)) (.nil))))) (some (.cells [.slice none 0 0, .slice none 0 0, .slice (some ⟨1, 0, some 5⟩) 1 2, .int .i64 0, .map (some 10), .slice (some ⟨32, 1, some 1⟩) 0 1] 0)) (.node (.node (.node (.node (.node (.nil) (some (.cells [.int .i64 0, .int .i64 0] 0)) (.nil)) (some (.cells [.int .i64 0] 0)) (.nil)) (some (.map 3 [] 0)) (.node (.nil) (some (.cells [.int .i64 0, .int .i64 1, .int .i64 0, .int .i64 (-1), .slice none 0 0] 0)) (.nil))) (some (.map 3 [([0, 0], .agg #[.int .i64 1, .int .i64 0, .int .i64 5, .int .i64 0], 0), ([0, 1], .agg #[.int .i64 29, .int .i64 0, .int .i64 0, .int .i64 0], 1), ([0, 2], .agg #[.int .i64 27, .int .i64 0, .int .i64 0, .int .i64 0], 2)] 3)) (.node (.node (.nil) (some (.map 3 [([1, 0], .agg #[.int .i64 28, .int .i64 0, .int .i64 0, .int .i64 0], 0), ([1, 1], .agg #[.int .i64 9, .int .i64 0, .int .i64 0, .int .i64 0], 1)] 2)) (.nil)) (some (.map 3 [([0, 0], .agg #[.int .i64 1, .int .i64 0, .int .i64 3, .int .i64 0], 0), ([0, 1], .agg #[.int .i64 29, .int .i64 0, .int .i64 0, .int .i64 0], 1), ([0, 2], .agg #[.int .i64 9, .int .i64 0, .int .i64 1, .int .i64 0], 2)] 3)) (.node (.nil) (some (.cells [.int .i64 1] 0)) (.nil)))) (some (.cells [.int .i64 0] 0)) (.node (.node (.node (.nil) (some (.cells [.int .i64 1] 0)) (.nil)) (some (.cells [.int .i64 0, .int .i64 0, .int .i64 0, .bool true, .bool false] 0)) (.node (.nil) (some (.cells [.int .i64 1] 0)) (.nil))) (some (.cells [.int .i64 1, .int .i64 0, .int .i64 5, .int .i64 0, .int .i64 29, .int .i64 0, .int .i64 0, .int .i64 0, .int .i64 27, .int .i64 0, .int .i64 0, .int .i64 0] 0)) (.node (.node (.nil) (some (.map 0 [([1], .int .i64 1, 0)] 1)) (.nil)) (some (.dead)) (.node (.nil) (some (.cells [] 0)) (.nil))))))) (some (.cells [.slice none 0 0, .int .i64 0, .int .i64 1, .slice none 0 0, .slice (some ⟨0, 0, some 4⟩) 3 4] 0)) (.node (.node (.node (.node (.node (.node (.node (.nil) (some (.cells [.slice (some ⟨260, 0, some 9⟩) 1 2, .slice (some ⟨256, 0, some 3⟩) 1 2, .slice none 0 0, .bool false] 0)) (.nil)) (some (.cells [.int .i64 2] 0)) (.nil)) (some (.map 3 [] 0)) (.node (.nil) (some (.cells [.int .i64 8, .slice none 0 0, .bool false] 0)) (.nil))) (some (.dead)) (.node (.node (.nil) (some (.cells [] 0)) (.nil)) (some (.cells [.int .i64 1, .int .i64 0, .int .i64 3, .int .i64 0, .int .i64 29, .int .i64 0, .int .i64 0, .int .i64 0, .int .i64 9, .int .i64 0, .int .i64 1, .int .i64 0] 0)) (.node (.nil) (some (.cells [.int .i64 1] 0)) (.nil)))) (some (.cells [.int .i64 1] 0)) (.node (.node (.node (.nil) (some (.map 3 [([0, 0], .agg #[.int .i64 1, .int .i64 0, .int .i64 3, .int .i64 0], 0), ([0, 1], .agg #[.int .i64 29, .int .i64 0, .int .i64 0, .int .i64 0], 1), ([0, 2], .agg #[.int .i64 9, .int .i64 0, .int .i64 1, .int .i64 0], 2)] 3)) (.nil)) (some (.cells [.int .i64 0, .int .i64 0, .int .i64 0, .int .i64 0, .int .i64 0, .int .i64 0, .int .i64 0, .int .i64 0, .int .i64 0, .int .i64 0, .int .i64 0, .int .i64 0] 0)) (.node (.nil) (some (.cells [.int .i64 0, .int .i64 1, .int .i64 0] 0)) (.nil))) (some (.cells [.int .i64 0] 0)) (.node (.node (.nil) (some (.map 3 [([1, 0], .agg #[.int .i64 28, .int .i64 0, .int .i64 0, .int .i64 0], 0), ([1, 1], .agg #[.int .i64 9, .int .i64 0, .int .i64 0, .int .i64 0], 1)] 2)) (.nil)) (some (.dead)) (.node (.nil) (some (.cells [] 0)) (.nil))))) (some (.map 3 [([0, 0], .agg #[.int .i64 1, .int .i64 0, .int .i64 5, .int .i64 0], 0), ([0, 1], .agg #[.int .i64 29, .int .i64 0, .int .i64 0, .int .i64 0], 1), ([0, 2], .agg #[.int .i64 27, .int .i64 0, .int .i64 0, .int .i64 0], 2)] 3)) (.node (.node (.node (.node (.node (.nil) (some (.fmap 2 [([0], .func (.func 16) #[.pointer (some ⟨195, 0, none⟩)] #[], 0), ([1], .func (.func 17) #[.pointer (some ⟨195, 0, none⟩)] #[], 0), ([2], .func (.func 18) #[.pointer (some ⟨195, 0, none⟩)] #[], 0), ([3], .func (.func 19) #[.pointer (some ⟨195, 0, none⟩)] #[], 0), ([4], .func (.func 20) #[.pointer (some ⟨195, 0, none⟩)] #[], 0), ([5], .func (.func 21) #[.pointer (some ⟨195, 0, none⟩)] #[], 0)])) (.nil)) (some (.cells [.int .i64 1] 0)) (.nil)) (some (.map 3 [] 0)) (.node (.nil) (some (.map 3 [] 0)) (.nil))) (some (.cells [.int .i64 0] 0)) (.node (.node (.nil) (some (.map 3 [([1, 0], .agg #[.int .i64 28, .int .i64 0, .int .i64 0, .int .i64 0], 0), ([1, 1], .agg #[.int .i64 9, .int .i64 0, .int .i64 0, .int .i64 0], 1)] 2)) (.nil)) (some (.cells [.int .i64 0] 0)) (.node (.nil) (some (.cells [.int .i64 1] 0)) (.nil)))) (some (.cells [.int .i64 1] 0)) (.node (.node (.node (.nil) (some (.cells [.int .i64 0] 0)) (.nil)) (some (.cells [.bool false, .bool false, .int .i64 0] 0)) (.node (.nil) (some (.cells [.int .i64 1] 0)) (.nil))) (some (.map 3 [] 0)) (.node (.node (.nil) (some (.cells [.int .i64 28, .int .i64 0, .int .i64 0, .int .i64 0, .int .i64 9, .int .i64 0, .int .i64 0, .int .i64 0] 0)) (.nil)) (some (.dead)) (.node (.nil) (some (.cells [.int .i64 1] 0)) (.nil)))))) (some (.cells [.int .i64 0] 0)) (.node (.node (.node (.node (.node (.node (.nil) (some (.cells [.slice (some ⟨260, 0, some 9⟩) 1 2, .slice (some ⟨256, 0, some 3⟩) 1 2, .slice none 0 0, .bool false] 0)) (.nil)) (some (.dead)) (.nil)) (some (.cells [.slice none 0 0, .slice none 0 0, .slice (some ⟨60, 0, some 5⟩) 1 2, .int .i64 8, .int .i64 16, .int .i64 512, .int .i64 40, .int .i64 8, .pointer (some ⟨56, 0, none⟩), .pointer (some ⟨66, 0, none⟩), .pointer (some ⟨67, 0, none⟩), .int .u64 0, .int .i64 0, .int .i64 0, .int .i64 0, .slice (some ⟨79, 0, some 1⟩) 1 2, .slice (some ⟨80, 0, some 2⟩) 1 2, .slice (some ⟨68, 0, some 1⟩) 0 1, .slice (some ⟨83, 0, some 1⟩) 1 2, .int .i64 1, .int .i64 1, .int .i64 0] 0)) (.node (.nil) (some (.cells [.int .i64 0, .int .i64 0, .int .i64 3, .int .i64 0, .int .i64 0, .int .i64 0, .int .i64 0, .int .i64 0, .int .i64 0, .int .i64 0, .int .i64 0, .int .i64 0, .int .i64 0, .int .i64 0, .int .i64 0, .int .i64 0] 0)) (.nil))) (some (.cells [.int .i64 0] 0)) (.node (.node (.nil) (some (.cells [.int .i64 1] 0)) (.nil)) (some (.map 0 [([1], .int .i64 1, 0)] 1)) (.node (.nil) (some (.cells [.int .i64 1] 0)) (.nil)))) (some (.dead)) (.node (.node (.node (.nil) (some (.dead)) (.nil)) (some (.cells [.bool false, .bool false, .int .i64 0] 0)) (.node (.nil) (some (.cells [.bool true, .bool true, .bool true] 0)) (.nil))) (some (.map 3 [([0, 0], .agg #[.int .i64 1, .int .i64 0, .int .i64 5, .int .i64 0], 0), ([0, 1], .agg #[.int .i64 29, .int .i64 0, .int .i64 0, .int .i64 0], 1), ([0, 2], .agg #[.int .i64 27, .int .i64 0, .int .i64 0, .int .i64 0], 2)] 3)) (.node (.node (.nil) (some (.dead)) (.nil)) (some (.cells [.int .i64 1] 0)) (.node (.nil) (some (.cells [] 0)) (.nil))))) (some (.dead)) (.node (.node (.node (.node (.node (.nil) (some (.fmap 3 [([0, 0], .int .i64 1, 0), ([1, 1], .int .i64 2, 0), ([1, 2], .int .i64 3, 0), ([2, 3], .int .i64 0, 0), ([3, 3], .int .i64 0, 0)])) (.nil)) (some (.map 3 [([0, 0], .agg #[.int .i64 1, .int .i64 0, .int .i64 3, .int .i64 0], 0), ([0, 1], .agg #[.int .i64 29, .int .i64 0, .int .i64 0, .int .i64 0], 1), ([0, 2], .agg #[.int .i64 9, .int .i64 0, .int .i64 1, .int .i64 0], 2)] 3)) (.nil)) (some (.cells [.int .i64 0, .int .i64 2, .int .i64 0, .int .i64 (-1), .slice none 0 0] 0)) (.node (.nil) (some (.cells [.pointer (some ⟨200, 0, none⟩)] 0)) (.nil))) (some (.cells [.int .i64 0] 0)) (.node (.node (.nil) (some (.map 3 [([1, 0], .agg #[.int .i64 28, .int .i64 0, .int .i64 0, .int .i64 0], 0), ([1, 1], .agg #[.int .i64 9, .int .i64 0, .int .i64 0, .int .i64 0], 1)] 2)) (.nil)) (some (.map 3 [([1, 0], .agg #[.int .i64 28, .int .i64 0, .int .i64 0, .int .i64 0], 0), ([1, 1], .agg #[.int .i64 9, .int .i64 0, .int .i64 0, .int .i64 0], 1)] 2)) (.node (.nil) (some (.dead)) (.nil)))) (some (.cells [.int .i64 2] 0)) (.node (.node (.node (.nil) (some (.dead)) (.nil)) (some (.cells [.int .i64 0, .int .i64 0, .int .i64 0, .bool true, .bool false] 0)) (.node (.nil) (some (.cells [.int .i64 1] 0)) (.nil))) (some (.map 0 [([1], .int .i64 1, 0)] 1)) (.node (.node (.nil) (some (.cells [.int .i64 0, .int .i64 0, .int .i64 0, .int .i64 0, .int .i64 0, .int .i64 0, .int .i64 0, .int .i64 0, .int .i64 0, .int .i64 0, .int .i64 0, .int .i64 0, .int .i64 0, .int .i64 0, .int .i64 0, .int .i64 0, .int .i64 0, .int .i64 0, .int .i64 0, .int .i64 0, .int .i64 0, .int .i64 0, .int .i64 0, .int .i64 0, .int .i64 0, .int .i64 0, .int .i64 0, .int .i64 0, .int .i64 0, .int .i64 0, .int .i64 0, .int .i64 0, .int .i64 0, .int .i64 0, .int .i64 0, .int .i64 0, .int .i64 0, .int .i64 0, .int .i64 0, .int .i64 0, .int .i64 0, .int .i64 0, .int .i64 0, .int .i64 0, .int .i64 0, .int .i64 0, .int .i64 0, .int .i64 0, .int .i64 0, .int .i64 0, .int .i64 0, .int .i64 0, .int .i64 0, .int .i64 0, .int .i64 0, .int .i64 0, .int .i64 0, .int .i64 0, .int .i64 0, .int .i64 0, .int .i64 0, .int .i64 0, .int .i64 0, .int .i64 0, .int .i64 0, .int .i64 0, .int .i64 0, .int .i64 0, .int .i64 0, .int .i64 0, .int .i64 0, .int .i64 0, .int .i64 0, .int .i64 0, .int .i64 0, .int .i64 0, .int .i64 0, .int .i64 0, .int .i64 0, .int .i64 0, .int .i64 0, .int .i64 0, .int .i64 0, .int .i64 0, .int .i64 0, .int .i64 0, .int .i64 0, .int .i64 0, .int .i64 0, .int .i64 0, .int .i64 0, .int .i64 0, .int .i64 0, .int .i64 0, .int .i64 0, .int .i64 0, .int .i64 0, .int .i64 0, .int .i64 0, .int .i64 0, .int .i64 0, .int .i64 0, .int .i64 0, .int .i64 0, .int .i64 0, .int .i64 0, .int .i64 0, .int .i64 0, .int .i64 0, .int .i64 0, .int .i64 0, .int .i64 0, .int .i64 0, .int .i64 0, .int .i64 0, .int .i64 0, .int .i64 0, .int .i64 0, .int .i64 0, .int .i64 0, .int .i64 0, .int .i64 0, .int .i64 0, .int .i64 0, .int .i64 0, .int .i64 0, .int .i64 0, .int .i64 0, .int .i64 0, .int .i64 0, .int .i64 0, .int .i64 0, .int .i64 0, .int .i64 0, .int .i64 0, .int .i64 0, .int .i64 0, .int .i64 0, .int .i64 0, .int .i64 0, .int .i64 0, .int .i64 0, .int .i64 0, .int .i64 0, .int .i64 0, .int .i64 0, .int .i64 0, .int .i64 0, .int .i64 0, .int .i64 0, .int .i64 0, .int .i64 0, .int .i64 0, .int .i64 0, .int .i64 0, .int .i64 0, .int .i64 0, .int .i64 0, .int .i64 0, .int .i64 0, .int .i64 0, .int .i64 0, .int .i64 0, .int .i64 0, .int .i64 0, .int .i64 0, .int .i64 0, .int .i64 0, .int .i64 0, .int .i64 0, .int .i64 0, .int .i64 0, .int .i64 0, .int .i64 0, .int .i64 0, .int .i64 0, .int .i64 0, .int .i64 0, .int .i64 0, .int .i64 0, .int .i64 0, .int .i64 0, .int .i64 0, .int .i64 0, .int .i64 0, .int .i64 0, .int .i64 0, .int .i64 0, .int .i64 0, .int .i64 0, .int .i64 0, .int .i64 0, .int .i64 0, .int .i64 0, .int .i64 0, .int .i64 0, .int .i64 0, .int .i64 0, .int .i64 0, .int .i64 0, .int .i64 0, .int .i64 0, .int .i64 0, .int .i64 0, .int .i64 0, .int .i64 0, .int .i64 0, .int .i64 0, .int .i64 0, .int .i64 0, .int .i64 0, .int .i64 0, .int .i64 0, .int .i64 0, .int .i64 0, .int .i64 0, .int .i64 0, .int .i64 0, .int .i64 0, .int .i64 0, .int .i64 0, .int .i64 0, .int .i64 0, .int .i64 0, .int .i64 0, .int .i64 0, .int .i64 0, .int .i64 0, .int .i64 0, .int .i64 0, .int .i64 0, .int .i64 0, .int .i64 0, .int .i64 0, .int .i64 0, .int .i64 0, .int .i64 0, .int .i64 0, .int .i64 0, .int .i64 0, .int .i64 0, .int .i64 0, .int .i64 0, .int .i64 0, .int .i64 0, .int .i64 0, .int .i64 0, .int .i64 0, .int .i64 0, .int .i64 0, .int .i64 0, .int .i64 0, .int .i64 0, .int .i64 0, .int .i64 0, .int .i64 0] 0)) (.nil)) (some (.cells [.int .i64 1] 0)) (.node (.nil) (some (.cells [.slice (some ⟨212, 0, some 1⟩) 3 4, .slice (some ⟨238, 0, some 1⟩) 2 3] 0)) (.nil)))))))) (some (.cells [.int .i64 1, .int .i64 0, .int .i64 5, .int .i64 0, .int .i64 29, .int .i64 0, .int .i64 0, .int .i64 0, .int .i64 27, .int .i64 0, .int .i64 0, .int .i64 0] 0)) (.node (.node (.node (.node (.node (.node (.node (.node (.nil) (some (.cells [.bool false, .bool false, .int .i64 0] 0)) (.nil)) (some (.cells [.int .i64 0] 0)) (.nil)) (some (.cells [.slice (some ⟨62, 0, some 1⟩) 8 9, .slice (some ⟨63, 0, some 1⟩) 256 257] 0)) (.node (.nil) (some (.cells [.pointer (some ⟨190, 0, none⟩), .slice none 0 0, .map (some 191), .int .i64 0, .int .i64 0] 0)) (.nil))) (some (.cells [.int .i64 2] 0)) (.node (.node (.nil) (some (.cells [] 0)) (.nil)) (some (.cells [.int .i64 5] 0)) (.node (.nil) (some (.cells [.int .i64 1] 0)) (.nil)))) (some (.dead)) (.node (.node (.node (.nil) (some (.cells [.int .i64 2] 0)) (.nil)) (some (.cells [.int .i64 4, .bool false] 0)) (.node (.nil) (some (.cells [.int .i64 0, .int .i64 0, .int .i64 0] 0)) (.nil))) (some (.map 3 [([0, 0], .agg #[.int .i64 1, .int .i64 0, .int .i64 5, .int .i64 0], 0), ([0, 1], .agg #[.int .i64 29, .int .i64 0, .int .i64 0, .int .i64 0], 1), ([0, 2], .agg #[.int .i64 27, .int .i64 0, .int .i64 0, .int .i64 0], 2)] 3)) (.node (.node (.nil) (some (.cells [] 0)) (.nil)) (some (.cells [.int .i64 0] 0)) (.node (.nil) (some (.cells [] 0)) (.nil))))) (some (.cells [.int .i64 0] 0)) (.node (.node (.node (.node (.node (.nil) (some (.cells [.int .i64 0, .int .i64 0] 0)) (.nil)) (some (.cells [.int .i64 1] 0)) (.nil)) (some (.cells [.int .i64 1073741824, .slice (some ⟨71, 0, some 1⟩) 16 17] 0)) (.node (.nil) (some (.cells [.slice none 0 0, .slice none 0 0, .slice (some ⟨186, 0, some 5⟩) 2 3, .pointer (some ⟨198, 0, none⟩), .slice (some ⟨203, 0, some 5⟩) 1 2, .slice (some ⟨204, 0, some 3⟩) 1 2, .slice none 0 0, .map (some 199)] 0)) (.nil))) (some (.cells [.int .i64 0] 0)) (.node (.node (.nil) (some (.cells [] 0)) (.nil)) (some (.map 3 [([0, 0], .agg #[.int .i64 1, .int .i64 0, .int .i64 3, .int .i64 0], 0), ([0, 1], .agg #[.int .i64 29, .int .i64 0, .int .i64 0, .int .i64 0], 1), ([0, 2], .agg #[.int .i64 9, .int .i64 0, .int .i64 1, .int .i64 0], 2)] 3)) (.node (.nil) (some (.cells [.int .i64 2] 0)) (.nil)))) (some (.dead)) (.node (.node (.node (.nil) (some (.cells [.int .i64 0] 0)) (.nil)) (some (.dead)) (.node (.nil) (some (.cells [.int .i64 1] 0)) (.nil))) (some (.cells [.map (some 10)] 0)) (.node (.node (.nil) (some (.dead)) (.nil)) (some (.cells [.int .i64 1] 0)) (.node (.nil) (some (.cells [.int .i64 0] 0)) (.nil)))))) (some (.map 3 [([0, 0], .agg #[.int .i64 1, .int .i64 0, .int .i64 5, .int .i64 0], 0), ([0, 1], .agg #[.int .i64 29, .int .i64 0, .int .i64 0, .int .i64 0], 1), ([0, 2], .agg #[.int .i64 27, .int .i64 0, .int .i64 0, .int .i64 0], 2)] 3)) (.node (.node (.node (.node (.node (.node (.nil) (some (.cells [.int .i64 0, .int .i64 0, .int .i64 0, .int .i64 (-1), .slice (some ⟨258, 0, some 1⟩) 1 2, .slice (some ⟨259, 0, some 1⟩) 0 1, .slice none 0 0, .int .i64 0, .bool false] 0)) (.nil)) (some (.cells [.int .i64 2] 0)) (.nil)) (some (.cells [] 0)) (.node (.nil) (some (.map 3 [] 0)) (.nil))) (some (.map 3 [([0, 0], .agg #[.int .i64 1, .int .i64 0, .int .i64 5, .int .i64 0], 0), ([0, 1], .agg #[.int .i64 29, .int .i64 0, .int .i64 0, .int .i64 0], 1), ([0, 2], .agg #[.int .i64 27, .int .i64 0, .int .i64 0, .int .i64 0], 2)] 3)) (.node (.node (.nil) (some (.map 3 [([1, 0], .agg #[.int .i64 28, .int .i64 0, .int .i64 0, .int .i64 0], 0), ([1, 1], .agg #[.int .i64 9, .int .i64 0, .int .i64 0, .int .i64 0], 1)] 2)) (.nil)) (some (.cells [.int .i64 1, .int .i64 8, .int .i64 64, .int .i64 1, .int .i64 16, .int .i64 512, .int .i64 1, .int .i64 512, .int .i64 4096, .int .i64 1, .int .i64 40, .int .i64 1000000, .int .i64 1, .int .i64 8, .int .i64 1000] 0)) (.node (.nil) (some (.cells [.int .i64 1] 0)) (.nil)))) (some (.cells [.int .i64 1] 0)) (.node (.node (.node (.nil) (some (.cells [.int .i64 0] 0)) (.nil)) (some (.dead)) (.node (.nil) (some (.cells [.slice (some ⟨214, 0, some 1⟩) 1 2, .slice (some ⟨215, 0, some 1⟩) 1 2, .slice (some ⟨217, 0, some 1⟩) 1 2] 0)) (.nil))) (some (.cells [.int .i64 1] 0)) (.node (.node (.nil) (some (.map 3 [] 0)) (.nil)) (some (.dead)) (.node (.nil) (some (.cells [.int .i64 0] 0)) (.nil))))) (some (.cells [.int .i64 0] 0)) (.node (.node (.node (.node (.node (.nil) (some (.fmap 2 [([0], .func (.func 16) #[.pointer (some ⟨195, 0, none⟩)] #[], 0), ([1], .func (.func 17) #[.pointer (some ⟨195, 0, none⟩)] #[], 0), ([2], .func (.func 18) #[.pointer (some ⟨195, 0, none⟩)] #[], 0), ([3], .func (.func 19) #[.pointer (some ⟨195, 0, none⟩)] #[], 0), ([4], .func (.func 20) #[.pointer (some ⟨195, 0, none⟩)] #[], 0), ([5], .func (.func 21) #[.pointer (some ⟨195, 0, none⟩)] #[], 0)])) (.nil)) (some (.cells [.int .i64 1] 0)) (.nil)) (some (.map 3 [] 0)) (.node (.nil) (some (.cells [.bool false, .bool false, .int .i64 0] 0)) (.nil))) (some (.map 3 [([0, 0], .agg #[.int .i64 1, .int .i64 0, .int .i64 5, .int .i64 0], 0), ([0, 1], .agg #[.int .i64 29, .int .i64 0, .int .i64 0, .int .i64 0], 1), ([0, 2], .agg #[.int .i64 27, .int .i64 0, .int .i64 0, .int .i64 0], 2)] 3)) (.node (.node (.nil) (some (.cells [.int .i64 1] 0)) (.nil)) (some (.map 3 [([1, 0], .agg #[.int .i64 28, .int .i64 0, .int .i64 0, .int .i64 0], 0), ([1, 1], .agg #[.int .i64 9, .int .i64 0, .int .i64 0, .int .i64 0], 1)] 2)) (.node (.nil) (some (.cells [.int .i64 1] 0)) (.nil)))) (some (.cells [.int .i64 0] 0)) (.node (.node (.node (.nil) (some (.map 3 [([0, 0], .agg #[.int .i64 1, .int .i64 0, .int .i64 3, .int .i64 0], 0), ([0, 1], .agg #[.int .i64 29, .int .i64 0, .int .i64 0, .int .i64 0], 1), ([0, 2], .agg #[.int .i64 9, .int .i64 0, .int .i64 1, .int .i64 0], 2)] 3)) (.nil)) (some (.dead)) (.node (.nil) (some (.cells [.int .i64 1] 0)) (.nil))) (some (.cells [.slice none 0 0, .int .i64 0, .int .i64 1, .slice none 0 0, .slice (some ⟨59, 0, some 4⟩) 3 4] 0)) (.node (.node (.nil) (some (.cells [.pointer none, .pointer none, .pointer none, .pointer none, .pointer none, .pointer none, .pointer none, .pointer none] 0)) (.nil)) (some (.dead)) (.node (.nil) (some (.cells [] 0)) (.nil))))))) (some (.cells [.int .i64 1, .int .i64 8, .int .i64 64, .int .i64 1, .int .i64 16, .int .i64 512, .int .i64 1, .int .i64 512, .int .i64 4096, .int .i64 1, .int .i64 40, .int .i64 1000000, .int .i64 1, .int .i64 8, .int .i64 1000] 0)) (.node (.node (.node (.node (.node (.node (.node (.nil) (some (.cells [.int .i64 0] 0)) (.nil)) (some (.dead)) (.nil)) (some (.cells [.pointer (some ⟨64, 0, none⟩), .slice none 0 0, .map (some 65), .int .i64 0, .int .i64 0] 0)) (.node (.nil) (some (.cells [] 0)) (.nil))) (some (.cells [.int .i64 1] 0)) (.node (.node (.nil) (some (.dead)) (.nil)) (some (.cells [.int .i64 28, .int .i64 0, .int .i64 0, .int .i64 0, .int .i64 9, .int .i64 0, .int .i64 0, .int .i64 0] 0)) (.node (.nil) (some (.cells [.int .i64 2] 0)) (.nil)))) (some (.map 3 [([0, 0], .agg #[.int .i64 1, .int .i64 0, .int .i64 5, .int .i64 0], 0), ([0, 1], .agg #[.int .i64 29, .int .i64 0, .int .i64 0, .int .i64 0], 1), ([0, 2], .agg #[.int .i64 27, .int .i64 0, .int .i64 0, .int .i64 0], 2)] 3)) (.node (.node (.node (.nil) (some (.cells [.int .i64 1] 0)) (.nil)) (some (.fmap 2 [([0], .func (.func 16) #[.pointer (some ⟨69, 0, none⟩)] #[], 0), ([1], .func (.func 17) #[.pointer (some ⟨69, 0, none⟩)] #[], 0), ([2], .func (.func 18) #[.pointer (some ⟨69, 0, none⟩)] #[], 0), ([3], .func (.func 19) #[.pointer (some ⟨69, 0, none⟩)] #[], 0), ([4], .func (.func 20) #[.pointer (some ⟨69, 0, none⟩)] #[], 0), ([5], .func (.func 21) #[.pointer (some ⟨69, 0, none⟩)] #[], 0)])) (.node (.nil) (some (.cells [.int .i64 0, .int .i64 0, .int .i64 0] 0)) (.nil))) (some (.cells [.int .i64 0] 0)) (.node (.node (.nil) (some (.cells [] 0)) (.nil)) (some (.cells [.int .i64 0] 0)) (.node (.nil) (some (.cells [.int .i64 1] 0)) (.nil))))) (some (.map 3 [([0, 0], .slice (some ⟨14, 0, some 1⟩) 1 2, 0), ([0, 1], .slice (some ⟨22, 0, some 1⟩) 1 2, 1), ([0, 2], .slice (some ⟨31, 0, some 1⟩) 1 2, 2)] 3)) (.node (.node (.node (.node (.node (.nil) (some (.dead)) (.nil)) (some (.map 3 [([0, 0], .agg #[.int .i64 1, .int .i64 0, .int .i64 3, .int .i64 0], 0), ([0, 1], .agg #[.int .i64 29, .int .i64 0, .int .i64 0, .int .i64 0], 1), ([0, 2], .agg #[.int .i64 9, .int .i64 0, .int .i64 1, .int .i64 0], 2)] 3)) (.nil)) (some (.cells [.slice none 0 0, .slice none 0 0, .slice (some ⟨60, 0, some 5⟩) 1 2, .pointer (some ⟨72, 0, none⟩), .slice (some ⟨77, 0, some 5⟩) 0 2, .slice (some ⟨89, 0, some 3⟩) 0 2, .slice (some ⟨91, 0, some 5⟩) 1 2, .map (some 73)] 0)) (.node (.nil) (some (.map 3 [] 0)) (.nil))) (some (.cells [.int .i64 2] 0)) (.node (.node (.nil) (some (.cells [.int .i64 0] 0)) (.nil)) (some (.cells [.int .i64 0] 0)) (.node (.nil) (some (.cells [.int .i64 1] 0)) (.nil)))) (some (.map 3 [([0, 0], .agg #[.int .i64 1, .int .i64 0, .int .i64 5, .int .i64 0], 0), ([0, 1], .agg #[.int .i64 29, .int .i64 0, .int .i64 0, .int .i64 0], 1), ([0, 2], .agg #[.int .i64 27, .int .i64 0, .int .i64 0, .int .i64 0], 2)] 3)) (.node (.node (.node (.nil) (some (.dead)) (.nil)) (some (.dead)) (.node (.nil) (some (.cells [.int .i64 2] 0)) (.nil))) (some (.dead)) (.node (.node (.nil) (some (.cells [.slice none 0 0, .int .i64 0, .int .i64 1, .slice none 0 0, .slice (some ⟨182, 0, some 4⟩) 3 4, .slice none 0 0, .int .i64 0, .int .i64 0, .slice none 0 0, .slice (some ⟨185, 0, some 4⟩) 2 3] 0)) (.nil)) (some (.cells [.int .i64 1] 0)) (.node (.nil) (some (.cells [.int .i64 0] 0)) (.nil)))))) (some (.map 3 [([0, 0], .agg #[.int .i64 1, .int .i64 0, .int .i64 5, .int .i64 0], 0), ([0, 1], .agg #[.int .i64 29, .int .i64 0, .int .i64 0, .int .i64 0], 1), ([0, 2], .agg #[.int .i64 27, .int .i64 0, .int .i64 0, .int .i64 0], 2)] 3)) (.node (.node (.node (.node (.node (.node (.nil) (some (.cells [.int .i64 0, .int .i64 0] 0)) (.nil)) (some (.cells [.int .i64 1] 0)) (.nil)) (some (.map 3 [] 0)) (.node (.nil) (some (.cells [.int .i64 1073741824, .slice (some ⟨197, 0, some 1⟩) 16 17] 0)) (.nil))) (some (.cells [.int .i64 1] 0)) (.node (.node (.nil) (some (.cells [] 0)) (.nil)) (some (.map 3 [([0, 0], .agg #[.int .i64 1, .int .i64 0, .int .i64 3, .int .i64 0], 0), ([0, 1], .agg #[.int .i64 29, .int .i64 0, .int .i64 0, .int .i64 0], 1), ([0, 2], .agg #[.int .i64 9, .int .i64 0, .int .i64 1, .int .i64 0], 2)] 3)) (.node (.nil) (some (.cells [.int .i64 1] 0)) (.nil)))) (some (.cells [.int .i64 1] 0)) (.node (.node (.node (.nil) (some (.cells [.int .i64 1] 0)) (.nil)) (some (.cells [.int .i64 0, .int .i64 0, .int .i64 0, .bool true, .bool false] 0)) (.node (.nil) (some (.cells [.int .i64 0] 0)) (.nil))) (some (.dead)) (.node (.node (.nil) (some (.cells [.int .i64 1, .int .i64 0, .int .i64 3, .int .i64 0, .int .i64 29, .int .i64 0, .int .i64 0, .int .i64 0, .int .i64 9, .int .i64 0, .int .i64 1, .int .i64 0] 0)) (.nil)) (some (.map 3 [([0, 0], .agg #[.int .i64 1, .int .i64 0, .int .i64 3, .int .i64 0], 0), ([0, 1], .agg #[.int .i64 29, .int .i64 0, .int .i64 0, .int .i64 0], 1), ([0, 2], .agg #[.int .i64 9, .int .i64 0, .int .i64 1, .int .i64 0], 2)] 3)) (.node (.nil) (some (.cells [.int .i64 1] 0)) (.nil))))) (some (.cells [.int .i64 0] 0)) (.node (.node (.node (.node (.nil) (some (.cells [.int .i64 0] 0)) (.nil)) (some (.cells [.bool false, .bool false, .int .i64 0] 0)) (.node (.nil) (some (.cells [.int .i64 0, .bool false] 0)) (.nil))) (some (.dead)) (.node (.node (.nil) (some (.cells [.int .i64 0] 0)) (.nil)) (some (.map 3 [([0, 0], .slice (some ⟨114, 0, some 1⟩) 1 2, 0), ([0, 1], .slice (some ⟨122, 0, some 1⟩) 1 2, 1), ([0, 2], .slice (some ⟨131, 0, some 1⟩) 1 2, 2), ([1, 0], .slice (some ⟨161, 0, some 1⟩) 0 1, 3), ([1, 1], .slice (some ⟨166, 0, some 1⟩) 0 1, 4)] 5)) (.node (.nil) (some (.cells [.slice (some ⟨240, 0, some 1⟩) 0 1, .slice (some ⟨241, 0, some 1⟩) 0 1] 0)) (.nil)))) (some (.dead)) (.node (.node (.node (.nil) (some (.cells [.int .i64 1] 0)) (.nil)) (some (.fmap 3 [([0, 0], .int .i64 1, 0), ([1, 1], .int .i64 2, 0), ([1, 2], .int .i64 3, 0), ([2, 3], .int .i64 0, 0), ([3, 3], .int .i64 0, 0)])) (.node (.nil) (some (.cells [.int .i64 1] 0)) (.nil))) (some (.cells [.pointer none, .pointer none, .pointer none, .pointer none, .pointer none, .pointer none, .pointer none, .pointer none] 0)) (.node (.node (.nil) (some (.cells [.slice (some ⟨188, 0, some 1⟩) 8 9, .slice (some ⟨189, 0, some 1⟩) 256 257] 0)) (.nil)) (some (.map 3 [([0, 0], .agg #[.int .i64 1, .int .i64 0, .int .i64 3, .int .i64 0], 0), ([0, 1], .agg #[.int .i64 29, .int .i64 0, .int .i64 0, .int .i64 0], 1), ([0, 2], .agg #[.int .i64 9, .int .i64 0, .int .i64 1, .int .i64 0], 2)] 3)) (.node (.nil) (some (.cells [] 0)) (.nil))))))))
def pick6 (i : Nat) (a b c d e f : IObj) : IObj := bif i == 0 then a else bif i == 1 then b else bif i == 2 then c else bif i == 3 then d else bif i == 4 then e else f
def objAt (t i : Nat) : IObj :=
  bif i == 195 then world t else
  bif i == 266 then bif t == 0 then .cells (threes 1) 0 else .dead else
  bif Nat.blt i 270 then (base.get i).getD .dead else
  pick6 ((i - 270) % 6) (.cells [.int .i64 0, .int .i64 0] 0) ways (bif (i - 270) / 6 + 1 == t then .cells (threes (t + 1)) 0 else .dead) (.cells [.int .i64 0, .int .i64 0] 0) ways steps3
def tabT (fuel : Nat) : Nat → (Nat → IObj) → Tr IObj := Nat.rec (fun _ _ => .nil) (fun _ ih n f => bif n == 0 then .nil else .node (ih (n / 2) fun i => f (2 * i + 1)) (some (f 0)) (ih ((n - 1) / 2) fun i => f (2 * i + 2))) fuel
def at_ (t : Nat) : List Value × IHeap := ([.int .i64 (Int.ofNat (3 + 2 * t))], ⟨270 + 6 * t, tabT 20 (270 + 6 * t) (objAt t)⟩)
end Go.Ideal
