/- This text proves no statement of the seat: it is part 0 of the ideal machine, on which functions of the program are run, and of the proof that the model does what it does. No conditions. -/
import Derived.Calls
import Derived.ChangeKeysEq
import Derived.Laws.Cells
import Derived.Laws.StructEq
import Derived.Lib.FrozenHead
import Derived.Wp
set_option linter.unusedVariables false
set_option linter.unusedSimpArgs false
/- The ideal machine, part A: its heap, its values, its operations. -/
namespace Go.Ideal

/-! ### A table by numbers -/
inductive Tr (α : Type) where
  | nil
  | node (l : Tr α) (v : Option α) (r : Tr α)

def Tr.get {α : Type} : Tr α → Nat → Option α
  | .nil, _ => none
  | .node l v r, n => bif n == 0 then v else bif n % 2 == 1 then l.get (n / 2) else r.get (n / 2 - 1)

def Tr.left {α : Type} : Tr α → Tr α | .nil => .nil | .node l _ _ => l
def Tr.right {α : Type} : Tr α → Tr α | .nil => .nil | .node _ _ r => r
def Tr.val {α : Type} : Tr α → Option α | .nil => none | .node _ v _ => v

def Tr.setF {α : Type} : Nat → Tr α → Nat → α → Tr α
  | 0, t, _, _ => t
  | f + 1, t, n, x =>
    bif n == 0 then .node t.left (some x) t.right
    else bif n % 2 == 1 then .node (Tr.setF f t.left (n / 2) x) t.val t.right
    else .node t.left t.val (Tr.setF f t.right (n / 2 - 1) x)

def Tr.set {α : Type} (t : Tr α) (n : Nat) (x : α) : Tr α := Tr.setF (n.log2 + 2) t n x

theorem Tr.get_node {α : Type} (l r : Tr α) (v : Option α) (n : Nat) :
    (Tr.node l v r).get n = if n = 0 then v else if n % 2 = 1 then l.get (n / 2) else r.get (n / 2 - 1) := by
  by_cases h : n = 0
  · subst h; rfl
  · by_cases h2 : n % 2 = 1
    · simp only [Tr.get, h, h2, if_false, if_true]
      have : (n == 0) = false := by simpa using h
      simp [this]
    · simp only [Tr.get, h, h2, if_false]
      have : (n == 0) = false := by simpa using h
      have h3 : (n % 2 == 1) = false := by simpa using h2
      simp [this, h3]

theorem Tr.get_eq {α : Type} (t : Tr α) (n : Nat) :
    t.get n = if n = 0 then t.val else if n % 2 = 1 then t.left.get (n / 2) else t.right.get (n / 2 - 1) := by
  cases t with
  | nil => simp [Tr.get, Tr.left, Tr.right, Tr.val]
  | node l v r => exact Tr.get_node l r v n

theorem Tr.setF_succ {α : Type} (f : Nat) (t : Tr α) (n : Nat) (x : α) :
    Tr.setF (f + 1) t n x = if n = 0 then .node t.left (some x) t.right
      else if n % 2 = 1 then .node (Tr.setF f t.left (n / 2) x) t.val t.right
      else .node t.left t.val (Tr.setF f t.right (n / 2 - 1) x) := by
  by_cases h : n = 0
  · subst h; rfl
  · have : (n == 0) = false := by simpa using h
    by_cases h2 : n % 2 = 1
    · simp [Tr.setF, this, h, h2]
    · have h3 : (n % 2 == 1) = false := by simpa using h2
      simp [Tr.setF, this, h, h2, h3]

theorem Tr.get_setF {α : Type} (f : Nat) : ∀ (t : Tr α) (n m : Nat) (x : α), n + 1 < 2 ^ f →
    (Tr.setF f t n x).get m = if m = n then some x else t.get m := by
  induction f with
  | zero => intro t n m x h; simp at h
  | succ f ih =>
    intro t n m x h
    have h2 : 2 ^ (f + 1) = 2 * 2 ^ f := by rw [Nat.pow_succ]; omega
    rw [Tr.setF_succ]
    by_cases hn : n = 0
    · subst hn
      rw [if_pos rfl, Tr.get_node, Tr.get_eq t m]
      by_cases hm : m = 0
      · simp [hm]
      · simp [hm]
    · rw [if_neg hn]
      by_cases ho : n % 2 = 1
      · rw [if_pos ho, Tr.get_node, Tr.get_eq t m]
        by_cases hm : m = 0
        · rw [if_pos hm, if_pos hm, if_neg (by omega)]
        · rw [if_neg hm, if_neg hm]
          by_cases hmo : m % 2 = 1
          · rw [if_pos hmo, if_pos hmo, ih _ _ _ _ (by omega)]
            by_cases e : m = n
            · subst e; simp
            · rw [if_neg (by omega), if_neg e]
          · rw [if_neg hmo, if_neg hmo, if_neg (by intro e; subst e; exact hmo ho)]
      · rw [if_neg ho, Tr.get_node, Tr.get_eq t m]
        by_cases hm : m = 0
        · rw [if_pos hm, if_pos hm, if_neg (by omega)]
        · rw [if_neg hm, if_neg hm]
          by_cases hmo : m % 2 = 1
          · rw [if_pos hmo, if_pos hmo, if_neg (by intro e; subst e; exact ho hmo)]
          · rw [if_neg hmo, if_neg hmo, ih _ _ _ _ (by omega)]
            by_cases e : m = n
            · subst e; simp
            · rw [if_neg (by omega), if_neg e]

theorem Tr.get_set {α : Type} (t : Tr α) (n m : Nat) (x : α) : (t.set n x).get m = if m = n then some x else t.get m := by
  refine Tr.get_setF _ t n m x ?_
  have h : n < 2 ^ (n.log2 + 1) := Nat.lt_log2_self
  have : 2 ^ (n.log2 + 2) = 2 * 2 ^ (n.log2 + 1) := by rw [Nat.pow_succ 2 (n.log2 + 1)]; omega
  omega

/-! ### The heap -/
/-- fl: 0 writable, 1 read only, 2 read only and the last of its row. fmap: a map that is only asked. -/
inductive IObj where
  | cells (cs : List Value) (fl : Nat)
  | map (ag : Nat) (es : List (List Int × Value × Nat)) (clock : Nat)
  | fmap (ag : Nat) (es : List (List Int × Value × Nat))
  | dead

structure IHeap where
  next : Nat
  tr : Tr IObj

def IHeap.get (H : IHeap) (b : Nat) : Option IObj := H.tr.get b
def IHeap.set (H : IHeap) (b : Nat) (o : IObj) : IHeap := ⟨H.next, H.tr.set b o⟩
def IHeap.push (H : IHeap) (o : IObj) : IHeap := ⟨H.next + 1, H.tr.set H.next o⟩

theorem IHeap.get_set (H : IHeap) (b c : Nat) (o : IObj) : (H.set b o).get c = if c = b then some o else H.get c := Tr.get_set _ _ _ _
theorem IHeap.get_push (H : IHeap) (c : Nat) (o : IObj) : (H.push o).get c = if c = H.next then some o else H.get c := Tr.get_set _ _ _ _
@[simp] theorem IHeap.next_set (H : IHeap) (b : Nat) (o : IObj) : (H.set b o).next = H.next := rfl
@[simp] theorem IHeap.next_push (H : IHeap) (o : IObj) : (H.push o).next = H.next + 1 := rfl
@[simp] theorem IHeap.get_set_self (H : IHeap) (b : Nat) (o : IObj) : (H.set b o).get b = some o := by simp [IHeap.get_set]
@[simp] theorem IHeap.get_push_self (H : IHeap) (o : IObj) : (H.push o).get H.next = some o := by simp [IHeap.get_push]

/-! ### What a slot holds -/
inductive TV where
  | v (x : Value)
  | lp (t o : Nat)
  | ls (t n : Nat)
  | bot

def TV.data : TV → Option Value
  | .v x => some x
  | _ => none

abbrev Locs := Nat → Option (List Value)

structure IA where
  tmp : Nat → TV
  loc : Locs

/-- A constant without addresses. -/
def cst : Value → Bool
  | .bool _ | .int _ _ | .float _ _ | .string _ | .pointer none | .slice none 0 0 | .map none | .nilFunc | .nilIface => true
  | .tuple a => a.size == 0
  | _ => false

def IA.ev (A : IA) : Operand → TV
  | .tmp t => A.tmp t
  | .const c => bif cst c then .v c else .bot
  | .global _ => .bot
  | .func f => .v (.func (.func f) #[] #[])

def IA.evd (A : IA) (x : Operand) : Option Value := (A.ev x).data

def evs (A : IA) : List Operand → Option (List Value)
  | [] => some []
  | x :: r => (A.evd x).bind fun v => (evs A r).bind fun l => some (v :: l)

/-! ### Types -/
section
variable (P : Program)
def tsz (t : TypeId) : Nat := ((P.info? t).map (·.size)).getD 0
def tby (t : TypeId) : Nat := ((P.info? t).map (·.bytes)).getD 0
def tag (t : TypeId) : Bool := match P.underlying t with | some (.struct _) | some (.array _ _) => true | _ => false
def tzero (t : TypeId) : Option Value := (P.info? t).bind (·.zero)
def okT (t : TypeId) : Bool := (P.underlying t).isSome
def elemT (t : TypeId) : Option TypeId := match P.underlying t with | some (.slice e) => bif okT P e then some e else none | _ => none
end

/-! ### Cells -/
def asCell : Value → Option Value
  | .agg _ | .tuple _ => none
  | v => some v
def asCells : Value → Option (List Value)
  | .agg a => some a.toList
  | .tuple _ => none
  | v => some [v]
def asAggN (n : Nat) : Value → Option (List Value)
  | .agg a => if a.toList.length = n then some a.toList else none
  | _ => none

/-- The value of a variable of a type in a row of cells. -/
def iload (ag : Bool) (size : Nat) (cs : List Value) (o : Nat) : Option Value :=
  bif ag then (if o + size ≤ cs.length then some (.agg ⟨(cs.drop o).take size⟩) else none) else cs[o]?
/-- A value, brought into a row of cells. -/
def istore (ag : Bool) (size : Nat) (cs : List Value) (o : Nat) (v : Value) : Option (List Value) :=
  bif ag then (asAggN size v).bind fun l => if o + size ≤ cs.length then some (cs.take o ++ l ++ cs.drop (o + size)) else none
  else (asCell v).bind fun c => if o < cs.length ∧ size = 1 then some (cs.set o c) else none

def ifillK {ρ : Type} (place : Nat → Option (Nat × Nat × Bool)) : List Value → List (Nat × Value) → (List Value → Option ρ) → Option ρ
  | cs, [], k => k cs
  | cs, (i, v) :: r, k => (place i).bind fun (o, size, ag) => (istore ag size cs o v).bind fun cs' => ifillK place cs' r k

/-! ### Operations on numbers and other plain values -/
def iint (op : BinOp) (k : IntKind) (x y : Int) : Option Value :=
  match op with
  | .add => some (.int k (k.wrap (x + y)))
  | .sub => some (.int k (k.wrap (x - y)))
  | .mul => some (.int k (k.wrap (x * y)))
  | .quo => if y = 0 then none else some (.int k (k.wrap (x.tdiv y)))
  | .rem => if y = 0 then none else some (.int k (x.tmod y))
  | .and => some (.int k (k.wrap (BitVec.ofInt k.bits x &&& BitVec.ofInt k.bits y).toNat))
  | .or => some (.int k (k.wrap (BitVec.ofInt k.bits x ||| BitVec.ofInt k.bits y).toNat))
  | .xor => some (.int k (k.wrap (BitVec.ofInt k.bits x ^^^ BitVec.ofInt k.bits y).toNat))
  | .andNot => some (.int k (k.wrap (BitVec.ofInt k.bits x &&& ~~~BitVec.ofInt k.bits y).toNat))
  | .eql => some (.bool (x == y))
  | .neq => some (.bool (x != y))
  | .lss => some (.bool (decide (x < y)))
  | .leq => some (.bool (decide (x ≤ y)))
  | .gtr => some (.bool (decide (x > y)))
  | .geq => some (.bool (decide (x ≥ y)))
  | _ => none

def ishift (op : BinOp) (k : IntKind) (x y : Int) : Option Value :=
  if y < 0 then none else
  match op with
  | .shl => some (.int k (k.wrap (x * 2 ^ (min y.toNat k.bits))))
  | .shr => some (.int k (x.fdiv (2 ^ (min y.toNat k.bits))))
  | _ => none

/-- The numbers of a flat struct or array. -/
def flat : List Value → Option (List Int)
  | [] => some []
  | .int .i64 n :: r => (flat r).bind fun l => some (n :: l)
  | _ :: _ => none

end Go.Ideal
/- The ideal machine, part B: one operation. -/
namespace Go.Ideal

/-! ### The cores: plain functions on values and heaps -/
abbrev ptr (b o : Nat) : Value := .pointer (some ⟨b, o, none⟩)
/-- A list in the block b from o on, each element of s cells; c: more than how many it can have at the least (0: none). -/
abbrev slc (s b o n c : Nat) : Value := .slice (some ⟨b, o, some s⟩) n c

def cellsOf (ag : Bool) (n : Nat) (v : Value) : Option (List Value) := bif ag then asAggN n v else (asCell v).bind fun c => some [c]

def hcells (H : IHeap) (b : Nat) : Option (List Value × Nat) := (H.get b).bind fun | .cells cs fl => some (cs, fl) | _ => none
def hload (ag : Bool) (size : Nat) (H : IHeap) (x : Value) : Option Value :=
  match x with
  | .pointer (some ⟨b, o, none⟩) => (hcells H b).bind fun (cs, _) => iload ag size cs o
  | _ => none
def hstore (ag : Bool) (size lim : Nat) (H : IHeap) (x v : Value) : Option IHeap :=
  match x with
  | .pointer (some ⟨b, o, none⟩) => (hcells H b).bind fun (cs, fl) =>
      bif decide (lim ≤ b) && fl == 0 then (istore ag size cs o v).bind fun cs' => some (H.set b (.cells cs' 0)) else none
  | _ => none
def paddr (n : Nat) (x : Value) : Option Value :=
  match x with
  | .pointer (some ⟨b, o, none⟩) => some (ptr b (o + n))
  | _ => none
def inilc (x : Value) : Option Value :=
  match x with
  | .pointer (some a) => some (.pointer (some a))
  | .func (.func f) fi ca => some (.func (.func f) fi ca)
  | _ => none
def iidx (size : Nat) (x i : Value) : Option Value :=
  match x, i with
  | .slice (some ⟨b, o, some _⟩) len _, .int _ n => if 0 ≤ n ∧ n < (len : Int) then some (ptr b (o + n.toNat * size)) else none
  | _, _ => none
/-- The place of an array's element. -/
def iidxA (len size : Nat) (i : Value) : Option Nat :=
  match i with
  | .int _ n => if 0 ≤ n ∧ n < (len : Int) then some (n.toNat * size) else none
  | _ => none

/-- Which values may be compared; flat: structs and arrays of ints and (true) bools. -/
inductive EqC where
  | no | bool | ptr | slice | flat (bs : List Bool)

def flatEq : List Bool → List Value → List Value → Option Bool
  | [], [], [] => some true
  | false :: t, .int .i64 a :: r, .int .i64 b :: s => (flatEq t r s).bind fun x => some ((a == b) && x)
  | true :: t, .bool a :: r, .bool b :: s => (flatEq t r s).bind fun x => some ((a == b) && x)
  | _, _, _ => none

def ieq (cl : EqC) (x y : Value) : Option Bool :=
  match cl, x, y with
  | .bool, .bool a, .bool b => some (a == b)
  | .ptr, .pointer none, .pointer b => some b.isNone
  | .ptr, .pointer (some _), .pointer none => some false
  | .slice, .slice none _ _, .slice b _ _ => some b.isNone
  | .slice, .slice (some _) _ _, .slice none _ _ => some false
  | .flat bs, .agg a, .agg b => flatEq bs a.toList b.toList
  | _, _, _ => none

def ibin (op : BinOp) (cl : EqC) (x y : Value) : Option Value :=
  match x, y with
  | .int k a, .int k' b =>
    match op with
    | .shl | .shr => ishift op k a b
    | _ => if k = k' then iint op k a b else none
  | .string a, .string b =>
    match op with
    | .eql => some (.bool (a.toList == b.toList))
    | .neq => some (.bool !(a.toList == b.toList))
    | _ => none
  | x, y =>
    match op with
    | .eql => (ieq cl x y).bind fun b => some (.bool b)
    | .neq => (ieq cl x y).bind fun b => some (.bool !b)
    | _ => none

def iun (op : UnOp) (x : Value) : Option Value :=
  match op, x with
  | .neg, .int k n => iint .sub k 0 n
  | .xor, .int k n => iint .xor k (if k.signed then -1 else k.max) n
  | .not, .bool b => some (.bool !b)
  | _, _ => none

def iconv (k : IntKind) (x : Value) : Option Value :=
  match x with
  | .int _ n => some (.int k (k.wrap n))
  | _ => none

/-- A key, as numbers (ag: 0: a plain one; n + 1: of a flat struct or array of n). -/
def ikey (ag : Nat) (v : Value) : Option (List Int) :=
  match ag with
  | 0 => (match v with | .int .i64 n => some [n] | _ => none)
  | n + 1 => (match v with | .agg a => bif a.toList.length == n then flat a.toList else none | _ => none)

abbrev Ent := List Int × Value × Nat
def ifind (k : List Int) : List Ent → Option (Value × Nat)
  | [] => none
  | (l, v, n) :: r => bif l == k then some (v, n) else ifind k r
def iupd (k : List Int) (v : Value) : List Ent → List Ent
  | [] => []
  | (l, u, n) :: r => bif l == k then (l, v, n) :: r else (l, u, n) :: iupd k v r
def idel (k : List Int) : List Ent → List Ent
  | [] => []
  | (l, u, n) :: r => bif l == k then r else (l, u, n) :: idel k r
def istamp (n : Int) (v : Value) : List Ent → Option (List Ent)
  | [] => none
  | (l, u, m) :: r => bif (m : Int) == n then some ((l, v, m) :: r) else (istamp n v r).bind fun r' => some ((l, u, m) :: r')

def hmap (ag : Nat) (H : IHeap) (r : Nat) : Option (List Ent × Nat) := (H.get r).bind fun | .map g es c => bif g == ag then some (es, c) else none | _ => none
def hlit (ag : Nat) (H : IHeap) (r : Nat) : Option (List Ent) := (H.get r).bind fun | .map g es _ => bif g == ag then some es else none | .fmap g es => bif g == ag then some es else none | _ => none
/-- The entries of a map that is asked (nil: none). -/
def ientries (ag : Nat) (H : IHeap) : Value → Option (List Ent)
  | .map none => some []
  | .map (some r) => hlit ag H r
  | _ => none

def ilook (ok : Bool) (z : Value) : Option (Value × Nat) → Value
  | some (v, _) => bif ok then .tuple #[v, .bool true] else v
  | none => bif ok then .tuple #[z, .bool false] else z
/-- m[k]; z: the zero element. -/
def ilookup (ag : Nat) (z : Value) (ok : Bool) (H : IHeap) (m k : Value) : Option Value :=
  (ientries ag H m).bind fun es => (ikey ag k).bind fun l => some (ilook ok z (ifind l es))

def iput (l : List Int) (v : Value) (es : List Ent) (c : Nat) : Option (Value × Nat) → List Ent × Nat
  | some _ => (iupd l v es, c)
  | none => (es ++ [(l, v, c)], c + 1)
/-- m[k] = v -/
def imapUpdate (ag lim : Nat) (H : IHeap) (m k v : Value) : Option IHeap :=
  match m with
  | .map (some r) => (hmap ag H r).bind fun (es, c) => (ikey ag k).bind fun l => bif decide (lim ≤ r) then
      some (H.set r (.map ag (iput l v es c (ifind l es)).1 (iput l v es c (ifind l es)).2)) else none
  | _ => none

def ientry (z : Value) (c : Nat) : Option (Value × Nat) → Value
  | some (v, n) => .tuple #[v, goInt n]
  | none => .tuple #[z, goInt c]
def iadd (l : List Int) (z : Value) (es : List Ent) (c : Nat) : Option (Value × Nat) → List Ent × Nat
  | some _ => (es, c)
  | none => (es ++ [(l, z, c)], c + 1)
def imapEntry (ag : Nat) (z : Value) (lim : Nat) (H : IHeap) (m k : Value) : Option (Value × IHeap) :=
  match m with
  | .map (some r) => (hmap ag H r).bind fun (es, c) => (ikey ag k).bind fun l => bif decide (lim ≤ r) then
      some (ientry z c (ifind l es), H.set r (.map ag (iadd l z es c (ifind l es)).1 (iadd l z es c (ifind l es)).2)) else none
  | _ => none

def ientryStore (lim : Nat) (H : IHeap) (m s v : Value) : Option IHeap :=
  match m, s with
  | .map (some r), .int _ n => (H.get r).bind fun
    | .map g es c => bif decide (lim ≤ r) then (istamp n v es).bind fun es' => some (H.set r (.map g es' c)) else none
    | _ => none
  | _, _ => none

def idelete (ag lim : Nat) (H : IHeap) (m k : Value) : Option IHeap :=
  match m with
  | .map (some r) => (hmap ag H r).bind fun (es, c) => (ikey ag k).bind fun l => bif decide (lim ≤ r) then some (H.set r (.map ag (idel l es) c)) else none
  | _ => none

def ibound (y : Nat) : Value → Option Nat
  | .int _ i => if 0 ≤ i ∧ i ≤ (y : Int) then some i.toNat else none
  | _ => none
def ilo (h : Nat) : Option Value → Option Nat
  | some l => ibound h l
  | none => some 0

/-- The bounds of a slice of length len, of which at least c - 1 can be had (c = 0: none). -/
def ibounds (len c : Nat) (lo hi mx : Option Value) : Option (Nat × Nat × Nat) :=
  match mx with
  | some m => (ibound (c - 1) m).bind fun m' => match hi with
    | some h => (ibound m' h).bind fun h' => (ilo h' lo).bind fun l' => some (l', h', bif m' == l' then 0 else m' - l' + 1)
    | none => none
  | none => (match hi with | some h => ibound (c - 1) h | none => some len).bind fun h' => (ilo h' lo).bind fun l' => some (l', h', c - l')

def isliceS (size : Nat) (x : Value) (lo hi mx : Option Value) : Option Value :=
  match x with
  | .slice a len c => (ibounds len c lo hi mx).bind fun (l, h, c') =>
      match a with
      | some ⟨b, o, some s⟩ => bif s == size then some (slc s b (o + l * size) (h - l) c') else none
      | some _ => none
      | none => some (.slice none 0 0)
  | _ => none
def isliceT (x : Value) (lo hi : Option Value) : Option Value :=
  match x with
  | .string s => (match hi with | some h => ibound s.size h | none => some s.size).bind fun h' => (ilo h' lo).bind fun l' => some (.string (s.extract l' h'))
  | _ => none

def ifield (ag : Bool) (size off : Nat) (x : Value) : Option Value :=
  match x with
  | .agg cs => iload ag size cs.toList off
  | _ => none
def iindexA (len : Nat) (ag : Bool) (size : Nat) (x i : Value) : Option Value :=
  match x with
  | .agg cs => (iidxA len size i).bind fun o => iload ag size cs.toList o
  | _ => none
def iindexS (x i : Value) : Option Value :=
  match x, i with
  | .string s, .int _ n => if 0 ≤ n then (s[n.toNat]?).bind fun b => some (.int .u8 b.toNat) else none
  | _, _ => none

def pickK (t x y : Value) : Option Value :=
  match t with
  | .bool b => some (bif b then x else y)
  | _ => none

def iextract (i : Nat) (t : Value) : Option Value :=
  match t with
  | .tuple vs => vs.toList[i]?
  | _ => none

def ilenS (x : Value) : Option Value := match x with | .slice _ n _ => some (goInt n) | _ => none
def ilenT (x : Value) : Option Value := match x with | .string s => some (goInt s.size) | _ => none
def ilenM (H : IHeap) (x : Value) : Option Value :=
  match x with
  | .map none => some (goInt 0)
  | .map (some r) => (H.get r).bind fun | .map _ es _ => some (goInt es.length) | _ => none
  | _ => none

def imm (mn : Bool) (x y : Int) : Int := bif mn then (if y < x then y else x) else (if y > x then y else x)
def ifold2 (mn : Bool) : Value → List Value → Option Value
  | x, [] => some x
  | .int k a, .int k' b :: r => if k = k' then ifold2 mn (.int k (imm mn a b)) r else none
  | _, _ => none
def iminmax (mn : Bool) : List Value → Option Value
  | .int k a :: r => ifold2 mn (.int k a) r
  | _ => none

/-- The cells of a list that is read, all of them. -/
def hrow (size : Nat) (H : IHeap) (x : Value) : Option (Nat × List Value) :=
  match x with
  | .slice none 0 0 => some (0, [])
  | .slice (some ⟨b, o, some _⟩) n _ => bif n == 0 then some (0, []) else (hcells H b).bind fun (cs, _) =>
      if o + n * size ≤ cs.length then some (n, (cs.drop o).take (n * size)) else none
  | _ => none
def lrow (size n : Nat) (cs : List Value) : Option (Nat × List Value) := if n * size ≤ cs.length then some (n, cs.take (n * size)) else none

/-- append(s, the m elements new): the list, and the heap. -/
def iappend (share : Bool) (size bytes lim : Nat) (H : IHeap) (s : Value) (m : Nat) (new : List Value) : Option (Value × IHeap) :=
  bif m == 0 then (match s with | .slice _ _ _ => some (s, H) | _ => none) else
  match s with
  | .slice none 0 0 => bif decide (m * (bytes + 1) ≤ 1099511627776) then some (slc size H.next 0 m (m + 1), H.push (.cells new 0)) else none
  | .slice (some ⟨b, o, some s⟩) n c =>
    bif !decide ((n + m) * (bytes + 1) ≤ 1099511627776) || !(s == size) then none else
    bif n == 0 && c == 0 then some (slc size H.next 0 m (m + 1), H.push (.cells new 0)) else
    (hcells H b).bind fun (cs, fl) =>
      bif !decide (lim ≤ b) || !decide (o + n * size ≤ cs.length) then none else
      bif share then
        (bif !(fl == 0 || fl == 2) || !(o + n * size == cs.length) then none else some (slc size H.next 0 (n + m) (n + m + 1), (H.set b (.cells cs 1)).push (.cells ((cs.drop o).take (n * size) ++ new) 2)))
      else (bif fl == 0 then some (slc size H.next 0 (n + m) (n + m + 1), (H.set b .dead).push (.cells ((cs.drop o).take (n * size) ++ new) 0)) else none)
  | _ => none

def icopy (size lim : Nat) (H : IHeap) (d : Value) (m : Nat) (new : List Value) : Option (Value × IHeap) :=
  match d with
  | .slice none 0 0 => some (goInt 0, H)
  | .slice (some ⟨b, o, some _⟩) n _ => bif min m n == 0 then some (goInt 0, H) else (hcells H b).bind fun (cs, fl) =>
      bif !decide (lim ≤ b) || !(fl == 0) || !decide (o + n * size ≤ cs.length) then none else
      some (goInt (min m n : Nat), H.set b (.cells (cs.take o ++ new.take (min m n * size) ++ cs.drop (o + min m n * size)) 0))
  | _ => none

/-- clear(d); zs: a zero element's cells -/
def iclear (zs : List Value) (lim : Nat) (H : IHeap) (d : Value) : Option IHeap :=
  match d with
  | .slice none 0 0 => some H
  | .slice (some ⟨b, o, some _⟩) n _ => bif n == 0 then some H else (hcells H b).bind fun (cs, fl) =>
      bif !decide (lim ≤ b) || !(fl == 0) || !decide (o + n * zs.length ≤ cs.length) then none else
      some (H.set b (.cells (cs.take o ++ (List.replicate n zs).flatten ++ cs.drop (o + n * zs.length)) 0))
  | _ => none

def imake (bytes : Nat) (zs : List Value) (H : IHeap) (l c : Value) : Option (Value × IHeap) :=
  match l, c with
  | .int _ n, .int _ m =>
    if n = m ∧ 0 ≤ n ∧ m * (bytes : Int) ≤ 1099511627776 ∧ m ≤ 1099511627776 then
      some (slc zs.length H.next 0 n.toNat (n.toNat + 1), H.push (.cells (List.replicate n.toNat zs).flatten 0)) else none
  | _, _ => none

/-- What one operation does: a slot alone; a local variable too; the heap too. -/
inductive R1 where
  | tv (x : TV)
  | loc (x : TV) (t : Nat) (cs : List Value)
  | heap (x : TV) (H : IHeap)

/-- promo: slots whose new variable is local; share: append leaves the old list readable. -/
structure Prm where
  promo : List Nat
  share : Bool

def isPromo (pr : Prm) : Option Tmp → Option Nat
  | some d => bif pr.promo.elem d then some d else none
  | none => none

abbrev unitV : TV := .v (.tuple #[])

def evParts (A : IA) : List (Nat × Operand) → Option (List (Nat × Value))
  | [] => some []
  | (i, x) :: r => (A.evd x).bind fun v => (evParts A r).bind fun l => some ((i, v) :: l)

def evOpt (A : IA) : Option Operand → Option (Option Value)
  | none => some none
  | some x => (A.evd x).bind fun v => some (some v)

section
variable {ρ : Type} (P : Program)

def iplaces (t : TypeId) : Option (Nat → Option (Nat × Nat × Bool)) :=
  match P.underlying t with
  | some (.struct fields) => bif fields.toList.all (fun f => okT P f.type) then some fun i => (fields[i]?).map fun f => (f.offset, tsz P f.type, tag P f.type) else none
  | some (.array _ e) => bif !okT P e then none else some fun i => some (i * tsz P e, tsz P e, tag P e)
  | _ => none

/-- Of a plain one-cell type: false: int, true: bool. -/
def oneTy (u : TypeId) : Option Bool :=
  match P.underlying u with
  | some (.int .i64) => bif tsz P u == 1 then some false else none
  | some .bool => bif tsz P u == 1 then some true else none
  | _ => none
def flatFields : List Field → Nat → Option (List Bool)
  | [], _ => some []
  | f :: r, i => bif f.offset == i && f.name != "_" then (oneTy P f.type).bind fun b => (flatFields r (i + 1)).bind fun l => some (b :: l) else none
/-- The kinds of the cells of a flat struct or array. -/
def flatTy (t : TypeId) : Option (List Bool) :=
  match P.underlying t with
  | some (.struct fields) => bif P.stoodInHeld t || fields.size == 0 then none else flatFields P fields.toList 0
  | some (.array n e) => bif n == 0 then none else (oneTy P e).bind fun b => some (List.replicate n b)
  | _ => none

def eqClass (t : TypeId) : EqC :=
  match P.underlying t with
  | some .bool => .bool
  | some (.pointer _) => .ptr
  | some (.slice _) => .slice
  | _ => match flatTy P t with | some l => .flat l | none => .no

def keyTy (t : TypeId) : Option Nat :=
  match P.underlying t with
  | some (.int .i64) => some 0
  | _ => (flatTy P t).bind fun l => bif l.all (!·) then some (l.length + 1) else none
/-- A zero element's cells. -/
def zcells (e : TypeId) : Option (List Value) := (tzero P e).bind fun z => (cellsOf (tag P e) (tsz P e) z).bind fun cs =>
  bif cs.all (fun v => cst v && v.oneCell) && cs.length == tsz P e && okT P e then some cs else none
def zval (e : TypeId) : Option Value := (zcells P e).bind fun _ => tzero P e

/-- Of a map's type: is its key flat, how many numbers, the zero element. -/
def mapTy (t : TypeId) : Option (Nat × Value) :=
  match P.underlying t with
  | some (.map kt et) => (keyTy P kt).bind fun ag => (zval P et).bind fun z => some (ag, z)
  | _ => none


/-! ### An operation, in the way of continuations -/
def kv (o : Option Value) (k : R1 → Option ρ) : Option ρ := o.bind fun v => k (.tv (.v v))
def kh (o : Option IHeap) (k : R1 → Option ρ) : Option ρ := o.bind fun H => k (.heap unitV H)
def kvh (o : Option (Value × IHeap)) (k : R1 → Option ρ) : Option ρ := o.bind fun x => k (.heap (.v x.1) x.2)

def inew (pr : Prm) (H : IHeap) (d : Option Tmp) (cs : List Value) (k : R1 → Option ρ) : Option ρ :=
  match isPromo pr d with
  | some t => k (.loc (.lp t 0) t cs)
  | none => k (.heap (.v (ptr H.next 0)) (H.push (.cells cs 0)))

def iloadK (P : Program) (A : IA) (H : IHeap) (t : TypeId) (a : TV) (k : R1 → Option ρ) : Option ρ :=
  bif !okT P t then none else
  match a with
  | .v x => kv (hload (tag P t) (tsz P t) H x) k
  | .lp u o => (A.loc u).bind fun cs => kv (iload (tag P t) (tsz P t) cs o) k
  | _ => none
def istoreK (P : Program) (lim : Nat) (A : IA) (H : IHeap) (t : TypeId) (a : TV) (v : Value) (k : R1 → Option ρ) : Option ρ :=
  bif !okT P t then none else
  match a with
  | .v x => kh (hstore (tag P t) (tsz P t) lim H x v) k
  | .lp u o => (A.loc u).bind fun cs => (istore (tag P t) (tsz P t) cs o v).bind fun cs' => k (.loc unitV u cs')
  | _ => none
def iaddK (n : Nat) (a : TV) (k : R1 → Option ρ) : Option ρ :=
  match a with
  | .v x => kv (paddr n x) k
  | .lp u o => k (.tv (.lp u (o + n)))
  | _ => none
def irowK (A : IA) (H : IHeap) (size : Nat) (x : TV) (k : Nat → List Value → Option ρ) : Option ρ :=
  match x with
  | .v x => (hrow size H x).bind fun r => k r.1 r.2
  | .ls u n => (A.loc u).bind fun cs => (lrow size n cs).bind fun r => k r.1 r.2
  | _ => none

/-- One operation that is no call of a function. -/
def iopK (pr : Prm) (lim : Nat) (A : IA) (H : IHeap) (d : Option Tmp) (op : Op) (k : R1 → Option ρ) : Option ρ :=
  match op with
  | .move x | .assign x => k (.tv (A.ev x))
  | .pick c a b => (A.evd c).bind fun t => (A.evd a).bind fun x => (A.evd b).bind fun y => kv (pickK t x y) k
  | .alloc t => (zcells P t).bind fun cs => inew pr H d cs k
  | .box t x => (A.evd x).bind fun v => (cellsOf (tag P t) (tsz P t) v).bind fun cs => inew pr H d cs k
  | .build t parts => (evParts A parts.toList).bind fun l => (iplaces P t).bind fun pl => (zcells P t).bind fun z => ifillK pl z l fun cs => k (.tv (.v (.agg ⟨cs⟩)))
  | .buildSlice t len parts => (elemT P t).bind fun e => (zcells P e).bind fun zs => (evParts A parts.toList).bind fun l =>
      bif !decide (len * tsz P e ≤ 16777216) then none else
      ifillK (fun i => some (i * tsz P e, tsz P e, tag P e)) (List.replicate len zs).flatten l fun cs =>
        match isPromo pr d with
        | some t => k (.loc (.ls t len) t cs)
        | none => k (.heap (.v (slc (tsz P e) H.next 0 len (len + 1))) (H.push (.cells cs 0)))
  | .load t a => iloadK P A H t (A.ev a) k
  | .store t a x => (A.evd x).bind fun v => istoreK P lim A H t (A.ev a) v k
  | .nilCheck x => match A.ev x with
    | .v x => kv (inilc x) k
    | .lp t o => k (.tv (.lp t o))
    | _ => none
  | .binOp op t x y _ => (A.evd x).bind fun a => (A.evd y).bind fun b => kv (ibin op (eqClass P t) a b) k
  | .unOp op _ x => (A.evd x).bind fun a => kv (iun op a) k
  | .convert src t x => match P.underlying t with
    | some (.int ik) => bif !okT P src then none else (A.evd x).bind fun a => kv (iconv ik a) k
    | _ => none
  | .makeFunc fn first captured => (evs A first.toList).bind fun f => (evs A captured.toList).bind fun c => k (.tv (.v (.func fn ⟨f⟩ ⟨c⟩)))
  | .makeMap t none => (mapTy P t).bind fun (ag, _) => k (.heap (.v (.map (some H.next))) (H.push (.map ag [] 0)))
  | .makeSlice t l c => (elemT P t).bind fun e => (zcells P e).bind fun zs => (A.evd l).bind fun n => (A.evd c).bind fun m => kvh (imake (tby P e) zs H n m) k
  | .slice t x lo hi mx => (A.evd x).bind fun v => (evOpt A lo).bind fun l => (evOpt A hi).bind fun h => (evOpt A mx).bind fun m =>
      match P.underlying t, m with
      | some (.slice e), m => bif !okT P e then none else kv (isliceS (tsz P e) v l h m) k
      | some .string, none => kv (isliceT v l h) k
      | _, _ => none
  | .fieldAddr s x f => match P.underlying s with
    | some (.struct fields) => (fields[f]?).bind fun g => bif tsz P g.type == 0 then none else iaddK g.offset (A.ev x) k
    | _ => none
  | .field t x f => match P.underlying t with
    | some (.struct fields) => (fields[f]?).bind fun g => bif !okT P g.type then none else (A.evd x).bind fun v => kv (ifield (tag P g.type) (tsz P g.type) g.offset v) k
    | _ => none
  | .indexAddr t x i => (A.evd i).bind fun n => match P.underlying t with
    | some (.slice e) => bif !okT P e then none else (A.evd x).bind fun v => kv (iidx (tsz P e) v n) k
    | some (.array len e) => bif !okT P e then none else (iidxA len (tsz P e) n).bind fun o => iaddK o (A.ev x) k
    | _ => none
  | .index t x i => (A.evd x).bind fun v => (A.evd i).bind fun n => match P.underlying t with
    | some (.array len e) => bif !okT P e then none else kv (iindexA len (tag P e) (tsz P e) v n) k
    | some .string => kv (iindexS v n) k
    | _ => none
  | .lookup t x i ok => (mapTy P t).bind fun (ag, z) => (A.evd x).bind fun m => (A.evd i).bind fun kk => kv (ilookup ag z ok H m kk) k
  | .mapUpdate t m i x => (mapTy P t).bind fun (ag, _) => (A.evd m).bind fun mv => (A.evd i).bind fun kk => (A.evd x).bind fun v => kh (imapUpdate ag lim H mv kk v) k
  | .mapEntry t m i => (mapTy P t).bind fun (ag, z) => (A.evd m).bind fun mv => (A.evd i).bind fun kk => kvh (imapEntry ag z lim H mv kk) k
  | .entryStore _ m s x => (A.evd m).bind fun mv => (A.evd s).bind fun sv => (A.evd x).bind fun v => kh (ientryStore lim H mv sv v) k
  | .extract t i => (A.evd t).bind fun v => kv (iextract i v) k
  | .call c => match c.callee with
    | .builtin b => match b, c.argTypes.toList, c.args.toList with
      | .len, [t], [x] => (A.evd x).bind fun v => (match P.underlying t with
        | some (.slice _) => kv (ilenS v) k
        | some .string => kv (ilenT v) k
        | some (.map _ _) => kv (ilenM H v) k
        | _ => none)
      | .min, _, l => (evs A l).bind fun vs => kv (iminmax true vs) k
      | .max, _, l => (evs A l).bind fun vs => kv (iminmax false vs) k
      | .append, [t, u], [s, x] => (match elemT P t, elemT P u with
        | some e, some _ => bif (zcells P e).isNone then none else (A.evd s).bind fun v => irowK A H (tsz P e) (A.ev x) fun m new => kvh (iappend pr.share (tsz P e) (tby P e) lim H v m new) k
        | _, _ => none)
      | .copy, [t, _], [s, x] => (elemT P t).bind fun e => (A.evd s).bind fun v => irowK A H (tsz P e) (A.ev x) fun m new => kvh (icopy (tsz P e) lim H v m new) k
      | .clear, [t], [s] => (elemT P t).bind fun e => (zcells P e).bind fun zs => (A.evd s).bind fun v => kh (iclear zs lim H v) k
      | .delete, [t, _], [m, i] => (mapTy P t).bind fun (ag, _) => (A.evd m).bind fun mv => (A.evd i).bind fun kk => kh (idelete ag lim H mv kk) k
      | _, _, _ => none
    | _ => none
  | _ => none
end

end Go.Ideal
/- The ideal machine, part C: regions, code, functions. -/
namespace Go.Ideal

abbrev G := Nat → List Value → IHeap → Option (Value × IHeap)

/-- fn: what the functions that are called do; wr: those that may write what was there. -/
structure Env where
  fn : FuncId → Option G
  wr : List FuncId

def IA.put (A : IA) (d : Option Tmp) (x : TV) : IA :=
  match d with
  | some t => { A with tmp := fun u => bif u == t then x else A.tmp u }
  | none => A
def IA.putLoc (A : IA) (t : Nat) (cs : List Value) : IA := { A with loc := fun u => bif u == t then some cs else A.loc u }

def R1.finK {ρ : Type} (W : List Nat) (A : IA) (H : IHeap) (d : Option Tmp) (r : R1) (k : IA → IHeap → Option ρ) : Option ρ :=
  match r with
  | .tv x => k (A.put d x) H
  | .loc x t cs => bif W.elem t then k ((A.putLoc t cs).put d x) H else none
  | .heap x H' => k (A.put d x) H'

def callK {ρ : Type} (r : Option (Value × IHeap)) (k : Value → IHeap → Option ρ) : Option ρ := r.bind fun x => k x.1 x.2

/-- What a guard says of a value: (no bool: of one that was passed over) no. -/
def gval (w : Bool) : Value → Option Bool
  | .bool b => some (b == w)
  | .tuple a => bif a.size == 0 then some false else none
  | _ => none
def boolK {ρ : Type} (x : Value) (k : Bool → Option ρ) : Option ρ :=
  match x with
  | .bool b => k b
  | _ => none

def iguard (ops : Array Oper) (A : IA) (g : Option (Nat × Bool)) : Option Bool :=
  match g with
  | none => some true
  | some (j, w) => match (ops[j]?).bind (·.dst) with
    | some d => match A.tmp d with
      | .v x => gval w x
      | _ => none
    | none => some false

def funcK {ρ : Type} (x : Value) (k : FuncId → List Value → List Value → Option ρ) : Option ρ :=
  match x with
  | .func (.func fid) first cap => k fid first.toList cap.toList
  | _ => none

section
variable (P : Program) (E : Env) (pr : Prm)

/-- An operation that is wanted. q: does its region draw its order? -/
def iwantK {ρ : Type} (lim : Nat) (q : Bool) (W : List Nat) (o : Oper) (A : IA) (H : IHeap) (k : IA → IHeap → Option ρ) : Option ρ :=
  match o.op with
  | .call c => match c.callee with
    | .builtin _ => iopK P pr lim A H o.dst o.op fun r => r.finK W A H o.dst k
    | .value f => (A.evd f).bind fun x => (evs A c.args.toList).bind fun vs => funcK x fun f first cap => (E.fn f).bind fun g =>
        callK (g (bif q && !E.wr.elem f then H.next else lim) (first ++ vs ++ cap) H) fun v H' => k (A.put o.dst (.v v)) H'
    | _ => none
  | _ => iopK P pr lim A H o.dst o.op fun r => r.finK W A H o.dst k

def iwant (lim : Nat) (q : Bool) (W : List Nat) (o : Oper) (A : IA) (H : IHeap) : Option (IA × IHeap) :=
  iwantK P E pr lim q W o A H fun A' H' => some (A', H')

def istep (lim : Nat) (q : Bool) (W : List Nat) (ops : Array Oper) (o : Oper) (A : IA) (H : IHeap) : Option (IA × IHeap) :=
  (iguard ops A o.guard).bind fun w =>
    bif w then iwant P E pr lim q W o A H else some (A.put o.dst (.v (.tuple #[])), H)

def irun (lim : Nat) (q : Bool) (W : List Nat) (ops : Array Oper) : List Oper → IA → IHeap → Option (IA × IHeap)
  | [], A, H => some (A, H)
  | o :: r, A, H => (istep P E pr lim q W ops o A H).bind fun (A', H') => irun lim q W ops r A' H'

/-- The wanted operations of a group, one behind the other. -/
def iseq {ρ : Type} (lim : Nat) (q : Bool) (W : List Nat) : List Oper → IA → IHeap → (IA → IHeap → Option ρ) → Option ρ
  | [], A, H, k => k A H
  | o :: r, A, H, k => iwantK P E pr lim q W o A H fun A' H' => iseq lim q W r A' H' k

def segs : List Oper → List (Option (Nat × Bool) × List Oper)
  | [] => []
  | o :: r => match segs r with
    | (g, l) :: s => bif g == o.guard then (g, o :: l) :: s else (o.guard, [o]) :: (g, l) :: s
    | [] => [(o.guard, [o])]

def packTK {ρ : Type} (A : IA) : List Nat → (List Value → Option ρ) → Option ρ
  | [], k => k []
  | t :: r, k => match A.tmp t with
    | .v x => packTK A r fun l => k (x :: l)
    | _ => none
def packLK {ρ : Type} (A : IA) : List Nat → (List Value → Option ρ) → Option ρ
  | [], k => k []
  | t :: r, k => (A.loc t).bind fun cs => packLK A r fun l => k (.agg ⟨cs⟩ :: l)
def packK {ρ : Type} (A : IA) (outs louts : List Nat) (k : List Value → Option ρ) : Option ρ := packTK A outs fun a => packLK A louts fun b => k (a ++ b)

/-- The value at a name's place; none: it isn't named. -/
def pick (t : Nat) : List Nat → List Value → Option Value
  | [], _ => none
  | u :: r, vs => bif t == u then some (vs.headD (.tuple #[])) else pick t r vs.tail
def aggs : Value → Option (List Value)
  | .agg a => some a.toList
  | _ => none

def keepT (lm : List Nat) : TV → TV
  | .lp t o => bif lm.elem t then .bot else .lp t o
  | .ls t n => bif lm.elem t then .bot else .ls t n
  | x => x

/-- A state behind a piece of code that sets asg, makes the local variables am anew and changes lm: what is told of it is vs. -/
def unpack (A : IA) (asg am outs louts lm : List Nat) (vs : List Value) : IA :=
  { tmp := fun t => match pick t outs vs with
      | some v => .v v
      | none => bif asg.elem t then .bot else keepT am (A.tmp t)
    loc := fun u => match pick u louts (vs.drop outs.length) with
      | some v => aggs v
      | none => bif lm.elem u then none else A.loc u }

def dsts : List Oper → List Nat
  | [] => []
  | o :: r => match o.dst with | some d => d :: dsts r | none => dsts r

def subset (a b : List Nat) : Bool := a.all fun x => b.elem x

def nodup : List Nat → Bool
  | [] => true
  | x :: r => !r.elem x && nodup r

def grpK {ρ : Type} (r : Option (List Value × IHeap)) (k : List Value → IHeap → Option ρ) : Option ρ := r.bind fun x => k x.1 x.2

def gsegs {ρ : Type} (lim : Nat) (q : Bool) (W : List Nat) (ops : Array Oper) :
    List (Option (Nat × Bool) × List Oper) → List (List Nat) → IA → IHeap → (IA → IHeap → Option ρ) → Option ρ
  | [], _, A, H, k => k A H
  | (none, l) :: s, outs, A, H, k => iseq P E pr lim q W l A H fun A' H' => gsegs lim q W ops s outs A' H' k
  | (some g, l) :: s, outs, A, H, k =>
    let o := outs.headD []
    bif (match (ops[g.1]?).bind (·.dst) with | some d => (dsts l).elem d | none => false) || !subset o (dsts l) then none else
    (iguard ops A (some g)).bind fun w =>
      grpK (bif w then iseq P E pr lim q [] l A H (fun A' H' => packTK A' o fun vs => some (vs, H')) else some (o.map fun _ => Value.tuple #[], H)) fun vs H' =>
        gsegs lim q W ops s outs.tail (unpack A (dsts l) [] o [] [] vs) H' k

def wipes : List Oper → List Nat
  | [] => []
  | o :: r => match o.op with
    | .alloc _ | .box _ _ | .buildSlice _ _ _ => (match isPromo pr o.dst with | some t => t :: wipes r | none => wipes r)
    | _ => wipes r

def wipe (A : IA) (us : List Nat) : IA :=
  { tmp := fun t => keepT us (A.tmp t), loc := fun u => bif us.elem u then none else A.loc u }

/-- late: a region whose call j writes beside the loads is; lit: one that fills a map. -/
inductive Ann where
  | leaf
  | region (outs : List (List Nat))
  | late (j : Nat) (is : List Nat)
  | lit
  | seq (a b : Ann)
  | inl (a b : Ann)
  | join (outs louts lm : List Nat) (a b : Ann)
  | block (outs louts lm : List Nat) (a : Ann)
  | loop (vars lvars lm : List Nat) (a : Ann)

inductive J where
  | norm (vs : List Value)
  | exit (id : Nat) (vs : List Value)
  | ret (v : Value)

def joinK (r : Option (J × IHeap)) (k : List Value → IHeap → Option (J × IHeap)) : Option (J × IHeap) :=
  r.bind fun x => match x.1 with | .norm vs => k vs x.2 | j => some (j, x.2)
def J.catch (id : Nat) : J → J
  | .exit i vs => bif i == id then .norm vs else .exit i vs
  | j => j
def catchK (id : Nat) (r : Option (J × IHeap)) (k : List Value → IHeap → Option (J × IHeap)) : Option (J × IHeap) :=
  joinK (r.bind fun x => some (x.1.catch id, x.2)) k
def retK (r : Option (J × IHeap)) : Option (Value × IHeap) := r.bind fun x => match x.1 with | .ret v => some (v, x.2) | _ => none

def asg : Code → List Nat
  | .region _ ops _ => dsts ops.toList
  | .seq a b => asg a ++ asg b
  | .cond _ a b => asg a ++ asg b
  | .block _ a => asg a
  | .loop a => asg a
  | _ => []

def wipesC : Code → List Nat
  | .region _ ops _ => wipes pr ops.toList
  | .seq a b => wipesC a ++ wipesC b
  | .cond _ a b => wipesC a ++ wipesC b
  | .block _ a => wipesC a
  | .loop a => wipesC a
  | _ => []

def iresultsK {ρ : Type} (A : IA) (H : IHeap) : List ResultVar → (List Value → Option ρ) → Option ρ
  | [], k => k []
  | .tmp t :: r, k => match A.tmp t with
    | .v x => iresultsK A H r fun l => k (x :: l)
    | _ => none
  | .cell t ty :: r, k => bif !okT P ty then none else match A.tmp t with
    | .v x => (hload (tag P ty) (tsz P ty) H x).bind fun v => iresultsK A H r fun l => k (v :: l)
    | .lp u o => (A.loc u).bind fun cs => (iload (tag P ty) (tsz P ty) cs o).bind fun v => iresultsK A H r fun l => k (v :: l)
    | _ => none
def itup : List Value → Value
  | [v] => v
  | l => .tuple ⟨l⟩

def iloop (body : List Value → IHeap → Option (J × IHeap)) (n : Nat) : List Value → IHeap → Option (J × IHeap) :=
  Nat.rec (fun _ _ => none) (fun _ ih vs H => joinK (body vs H) ih) n

abbrev BO := List (Nat × List Nat × List Nat)
def BO.find (id : Nat) : BO → Option (List Nat × List Nat)
  | [] => none
  | (i, a) :: r => bif i == id then some a else BO.find id r

/-! ### Two kinds of regions besides -/
def rowEq : Option Nat → Option Nat → Bool
  | none, none => true
  | some a, some b => a == b
  | _, _ => false
def addrEq : Option Addr → Option Addr → Bool
  | none, none => true
  | some ⟨a, o, r⟩, some ⟨b, p, s⟩ => a == b && o == p && rowEq r s
  | _, _ => false
def natEq : Option Nat → Option Nat → Bool
  | none, none => true
  | some a, some b => a == b
  | _, _ => false
/-- Are two plain values surely the same? -/
def veq1 : Value → Value → Bool
  | .bool a, .bool b => a == b
  | .int .i64 a, .int .i64 b => a == b
  | .pointer a, .pointer b => addrEq a b
  | .slice a n c, .slice b m d => addrEq a b && n == m && c == d
  | .map a, .map b => natEq a b
  | _, _ => false
def veqs : List Value → List Value → Bool
  | [], [] => true
  | a :: l, b :: m => veq1 a b && veqs l m
  | _, _ => false
def veq : Value → Value → Bool
  | .agg a, .agg b => veqs a.toList b.toList
  | a, b => veq1 a b

def chk1 (r : Option Value) (v : Value) : Bool := match r with | some v' => veq v v' | none => false
/-- The loads is read the same ahead of the call (H1) and behind it (H2). -/
def lateChk (l : List Oper) (j : Nat) (A : IA) (H1 H2 : IHeap) : List Nat → Bool
  | [] => true
  | i :: is => (match l[i]? with
    | some o => (match o.op, o.dst with
      | .load t x, some d => (match A.ev x, A.tmp d with
        | .v p, .v v => chk1 (hload (tag P t) (tsz P t) (bif decide (i < j) then H2 else H1) p) v
        | _, _ => false)
      | _, _ => false)
    | none => false) && lateChk l j A H1 H2 is

def litOf : List Oper → Option TypeId
  | [] => none
  | o :: r => match o.op with
    | .makeMap t none => some t
    | _ => litOf r
def isMapAt (b : Nat) : Value → Bool
  | .map (some r) => r == b
  | _ => false
def litK {ρ : Type} (t : TypeId) (ag : Nat) (H : IHeap) : List Oper → IA → List Ent → (IA → List Ent → Option ρ) → Option ρ
  | [], A, es, k => k A es
  | o :: r, A, es, k => match o.op with
    | .makeMap _ _ => litK t ag H r (A.put o.dst (.v (.map (some H.next)))) es k
    | .insert u m x y => (A.evd m).bind fun mv => (A.evd x).bind fun kv => (A.evd y).bind fun v => (ikey ag kv).bind fun l =>
      bif u == t && isMapAt H.next mv && (ifind l es).isNone then litK t ag H r (A.put o.dst unitV) (es ++ [(l, v, 0)]) k else none
    | .move x => litK t ag H r (A.put o.dst (A.ev x)) es k
    | .assign x => litK t ag H r (A.put o.dst (A.ev x)) es k
    | .build u parts => iopK P pr 0 A H o.dst (.build u parts) fun q => match q with | .tv x => litK t ag H r (A.put o.dst x) es k | _ => none
    | .makeFunc f a b => iopK P pr 0 A H o.dst (.makeFunc f a b) fun q => match q with | .tv x => litK t ag H r (A.put o.dst x) es k | _ => none
    | _ => none

/-- May a region that draws its order be run in the order of the text? -/
structure Ok where
  dr : IA → Array Oper → Bool
  lt : IA → Array Oper → Nat → List Nat → Bool
  li : Array Oper → Bool

variable (N : Nat) (ok : Ok)

def icode (lim : Nat) (rs : List ResultVar) : Code → Ann → BO → List Nat → IA → IHeap → (IA → IHeap → Option (J × IHeap)) → Option (J × IHeap)
  | .skip, .leaf, _, _, A, H, k => k A H
  | .region _ ops q, .region outs, _, W, A, H, k =>
    bif (q && !ok.dr (wipe A (wipes pr ops.toList)) ops) || !subset (wipes pr ops.toList) W || !nodup (wipes pr ops.toList) then none else
    gsegs P E pr lim q W ops (segs ops.toList) outs (wipe A (wipes pr ops.toList)) H k
  | .region _ ops q, .late j is, _, W, A, H, k =>
    bif !q || !ok.lt (wipe A (wipes pr ops.toList)) ops j is || !subset (wipes pr ops.toList) W || !nodup (wipes pr ops.toList) then none else
    match ops.toList.drop j with
    | oj :: l2 => iseq P E pr lim true W (ops.toList.take j) (wipe A (wipes pr ops.toList)) H fun A1 H1 => iwantK P E pr lim true W oj A1 H1 fun A2 H2 =>
      iseq P E pr lim true W l2 A2 H2 fun A3 H3 => bif lateChk P ops.toList j A3 H1 H2 is then k A3 H3 else none
    | [] => none
  | .region _ ops q, .lit, _, _, A, H, k =>
    bif !q || !ok.li ops then none else
    (litOf ops.toList).bind fun t => (mapTy P t).bind fun (ag, _) => litK P pr t ag H ops.toList A [] fun A' es => k A' (H.push (.fmap ag es))
  | .seq a b, .seq x y, bo, W, A, H, k => icode lim rs a x bo W A H fun A' H' => icode lim rs b y bo W A' H' k
  | .cond c a b, .inl x y, bo, W, A, H, k => match A.ev c with
    | .v t => boolK t fun t => bif t then icode lim rs a x bo W A H k else icode lim rs b y bo W A H k
    | _ => none
  | .cond c a b, .join outs louts lm x y, bo, W, A, H, k => bif !subset lm W then none else match A.ev c with
    | .v t => joinK
      (boolK t fun t => bif t then icode lim rs a x bo lm A H (fun A' H' => packK A' outs louts fun vs => some (.norm vs, H'))
        else icode lim rs b y bo lm A H (fun A' H' => packK A' outs louts fun vs => some (.norm vs, H')))
      fun vs H' => k (unpack A (asg a ++ asg b) (wipesC pr a ++ wipesC pr b) outs louts lm vs) H'
    | _ => none
  | .block id a, .block outs louts lm x, bo, W, A, H, k => bif !subset lm W then none else
    catchK id (icode lim rs a x ((id, outs, louts) :: bo) lm A H (fun A' H' => packK A' outs louts fun vs => some (.norm vs, H')))
      fun vs H' => k (unpack A (asg a) (wipesC pr a) outs louts lm vs) H'
  | .loop a, .loop vars lvars lm x, bo, W, A, H, _ => bif !subset lm W then none else
    packK A vars lvars fun vs0 =>
      iloop (fun vs H => icode lim rs a x bo lm (unpack A (asg a) (wipesC pr a) vars lvars lm vs) H (fun A' H' => packK A' vars lvars fun vs' => some (.norm vs', H'))) N vs0 H
  | .exit id, .leaf, bo, _, A, H, _ => (BO.find id bo).bind fun (outs, louts) => packK A outs louts fun vs => some (.exit id vs, H)
  | .ret, .leaf, _, _, A, H, _ => iresultsK P A H rs fun l => some (.ret (itup l), H)
  | _, _, _, _, _, _, _ => none

def argsT : List Value → Nat → TV
  | [], _ => .bot
  | v :: r, n => match n with | 0 => .v v | n + 1 => argsT r n

/-- For reading: the n-th of a list. -/
def nthV : Nat → List Value → Value
  | 0, l => l.headD (.tuple #[])
  | n + 1, l => nthV n l.tail
def rowK {ρ : Type} (r : Option (Nat × List Value)) (k : Nat → List Value → Option ρ) : Option ρ := r.bind fun x => k x.1 x.2

/-- A function: its number of parameters, its results, its body. -/
def ifun (f : Func) (ann : Ann) : G := fun lim args H =>
  match f.body with
  | some c =>
    bif args.length == f.params.size + f.nfree && (asg c).all (fun t => t < f.ntmps) && decide (args.length ≤ f.ntmps) then
      retK (icode P E pr N ok lim f.results.toList c ann [] pr.promo { tmp := fun t => argsT args t, loc := fun _ => none } H
        (fun A H' => iresultsK P A H' f.results.toList fun l => some (.ret (itup l), H')))
    else none
  | none => none
end
end Go.Ideal
/- The ideal machine, part D: how its values and heaps stand to the model's. -/
namespace Go.Ideal

/-- Of a block: its block in the world, how far it is moved, how many cells that one has. -/
abbrev Ren := Nat → Option (Nat × Nat × Nat)

mutual
inductive VR (ρ : Ren) : Value → Value → Prop
  | bool (b : Bool) : VR ρ (.bool b) (.bool b)
  | int (k : IntKind) (n : Int) : VR ρ (.int k n) (.int k n)
  | float (k : FloatKind) (n : Nat) : VR ρ (.float k n) (.float k n)
  | string (s : ByteArray) : VR ρ (.string s) (.string s)
  | nilptr : VR ρ (.pointer none) (.pointer none)
  | ptr {b r δ z : Nat} (o : Nat) : ρ b = some (r, δ, z) → VR ρ (ptr b o) (ptr r (o + δ))
  | nilslc : VR ρ (.slice none 0 0) (.slice none 0 0)
  | slc {b r δ z : Nat} (s o : Nat) {n c c' : Nat} : ρ b = some (r, δ, z) → n + 1 ≤ c → c ≤ c' + 1 → o + δ + c' * s ≤ z → VR ρ (slc s b o n c) (.slice (some ⟨r, o + δ, none⟩) n c')
  | slcz {s b o c : Nat} (a : Addr) : c ≤ 1 → VR ρ (slc s b o 0 c) (.slice (some a) 0 0)
  | nilmap : VR ρ (.map none) (.map none)
  | map {b r : Nat} : ρ b = some (r, 0, 0) → VR ρ (.map (some b)) (.map (some r))
  | func {fn : Fn} {a b c d : List Value} : VRs ρ a c → VRs ρ b d → VR ρ (.func fn ⟨a⟩ ⟨b⟩) (.func fn ⟨c⟩ ⟨d⟩)
  | nilFunc : VR ρ .nilFunc .nilFunc
  | nilIface : VR ρ .nilIface .nilIface
  | agg {a b : List Value} : VRs ρ a b → (∀ v ∈ a, v.oneCell = true) → VR ρ (.agg ⟨a⟩) (.agg ⟨b⟩)
  | tuple {a b : List Value} : VRs ρ a b → VR ρ (.tuple ⟨a⟩) (.tuple ⟨b⟩)
inductive VRs (ρ : Ren) : List Value → List Value → Prop
  | nil : VRs ρ [] []
  | cons {a b : Value} {l m : List Value} : VR ρ a b → VRs ρ l m → VRs ρ (a :: l) (b :: m)
end

def Ren.le (ρ ρ' : Ren) : Prop := ∀ b x, ρ b = some x → ρ' b = some x
theorem Ren.le_refl (ρ : Ren) : ρ.le ρ := fun _ _ h => h
theorem Ren.le_trans {a b c : Ren} (h : a.le b) (k : b.le c) : a.le c := fun _ _ e => k _ _ (h _ _ e)

mutual
theorem VR.mono {ρ ρ' : Ren} (h : ρ.le ρ') : ∀ {v v' : Value}, VR ρ v v' → VR ρ' v v'
  | _, _, .bool b => .bool b
  | _, _, .int k n => .int k n
  | _, _, .float k n => .float k n
  | _, _, .string s => .string s
  | _, _, .nilptr => .nilptr
  | _, _, .ptr o e => .ptr o (h _ _ e)
  | _, _, .nilslc => .nilslc
  | _, _, .slc s o e h1 h2 h3 => .slc s o (h _ _ e) h1 h2 h3
  | _, _, .slcz a h1 => .slcz a h1
  | _, _, .nilmap => .nilmap
  | _, _, .map e => .map (h _ _ e)
  | _, _, .func a b => .func (VRs.mono h a) (VRs.mono h b)
  | _, _, .nilFunc => .nilFunc
  | _, _, .nilIface => .nilIface
  | _, _, .agg a b => .agg (VRs.mono h a) b
  | _, _, .tuple a => .tuple (VRs.mono h a)
theorem VRs.mono {ρ ρ' : Ren} (h : ρ.le ρ') : ∀ {v v' : List Value}, VRs ρ v v' → VRs ρ' v v'
  | _, _, .nil => .nil
  | _, _, .cons a b => .cons (VR.mono h a) (VRs.mono h b)
end

section lists
variable {ρ : Ren}
theorem VRs.length {l m : List Value} (h : VRs ρ l m) : l.length = m.length := by
  induction l generalizing m with
  | nil => cases h; rfl
  | cons a l ih => cases h with | cons _ k => simp [ih k]
theorem VRs.append {l m l' m' : List Value} (h : VRs ρ l m) (k : VRs ρ l' m') : VRs ρ (l ++ l') (m ++ m') := by
  induction l generalizing m with
  | nil => cases h; exact k
  | cons a l ih => cases h with | cons a k' => exact .cons a (ih k')
theorem VRs.take {l m : List Value} (h : VRs ρ l m) (n : Nat) : VRs ρ (l.take n) (m.take n) := by
  induction n generalizing l m with
  | zero => simp; exact .nil
  | succ n ih => cases h with | nil => simp; exact .nil | cons a k => simp; exact .cons a (ih k)
theorem VRs.drop {l m : List Value} (h : VRs ρ l m) (n : Nat) : VRs ρ (l.drop n) (m.drop n) := by
  induction n generalizing l m with
  | zero => simpa
  | succ n ih => cases h with | nil => simp; exact .nil | cons a k => simpa using ih k
theorem VRs.get {l m : List Value} (h : VRs ρ l m) {i : Nat} {v : Value} (e : l[i]? = some v) : ∃ v', m[i]? = some v' ∧ VR ρ v v' := by
  induction i generalizing l m with
  | zero => cases h with | nil => simp at e | cons a k => simp at e; subst e; exact ⟨_, rfl, a⟩
  | succ i ih => cases h with | nil => simp at e | cons a k => simp at e ⊢; exact ih k e
theorem VRs.set {l m : List Value} (h : VRs ρ l m) (i : Nat) {v v' : Value} (hv : VR ρ v v') : VRs ρ (l.set i v) (m.set i v') := by
  induction i generalizing l m with
  | zero => cases h with | nil => exact .nil | cons a k => exact .cons hv k
  | succ i ih => cases h with | nil => exact .nil | cons a k => exact .cons a (ih k)
theorem VRs.replicate {v v' : Value} (h : VR ρ v v') (n : Nat) : VRs ρ (List.replicate n v) (List.replicate n v') := by
  induction n with
  | zero => exact .nil
  | succ n ih => exact .cons h ih
theorem VRs.rep {l m : List Value} (h : VRs ρ l m) (n : Nat) : VRs ρ (List.replicate n l).flatten (List.replicate n m).flatten := by
  induction n with
  | zero => exact .nil
  | succ n ih => simp only [List.replicate_succ, List.flatten_cons]; exact h.append ih
theorem VRs.snoc {l m : List Value} (h : VRs ρ l m) {v v' : Value} (k : VR ρ v v') : VRs ρ (l ++ [v]) (m ++ [v']) := h.append (.cons k .nil)
/-- A list out of its places. -/
theorem VRs.of_get : ∀ {l m : List Value}, l.length = m.length → (∀ (i : Nat) (v : Value), l[i]? = some v → ∃ v', m[i]? = some v' ∧ VR ρ v v') → VRs ρ l m
  | [], [], _, _ => .nil
  | a :: l, b :: m, hl, h => .cons (by obtain ⟨v', e, k⟩ := h 0 a rfl; simp at e; subst e; exact k) (VRs.of_get (by simpa using hl) fun i v e => h (i + 1) v (by simpa using e))
  | [], _ :: _, hl, _ => by simp at hl
  | _ :: _, [], hl, _ => by simp at hl
end lists

/-- A value without addresses stands to itself. -/
theorem VR.cst {ρ : Ren} {v : Value} (h : cst v = true) : VR ρ v v := by
  unfold Ideal.cst at h
  split at h <;> first | constructor | skip
  · rename_i a
    obtain ⟨l⟩ := a
    have : l = [] := by simpa using h
    subst this; exact .nil
  · simp at h

theorem VR.oneCell {ρ : Ren} {v v' : Value} (h : VR ρ v v') : v'.oneCell = v.oneCell := by
  cases h <;> rfl

/-! ### Objects -/
def mkKey (ag : Nat) (l : List Int) : Value := match ag with | 0 => .int .i64 (l.headD 0) | _ + 1 => .agg ⟨l.map (Value.int .i64)⟩
def keyLen (ag : Nat) : Nat := match ag with | 0 => 1 | n + 1 => n
/-- entries -/
inductive ER (ρ : Ren) (ag : Nat) : List Ent → List MapEntry → Prop
  | nil : ER ρ ag [] []
  | cons {l : List Int} {v v' : Value} {n : Nat} {es : List Ent} {fs : List MapEntry} : l.length = keyLen ag → VR ρ v v' → ER ρ ag es fs →
      ER ρ ag ((l, v, n) :: es) (⟨mkKey ag l, v', n⟩ :: fs)
theorem ER.mono {ρ ρ' : Ren} {ag : Nat} (h : ρ.le ρ') {es : List Ent} {fs : List MapEntry} (k : ER ρ ag es fs) : ER ρ' ag es fs := by
  induction k with
  | nil => exact .nil
  | cons a b _ ih => exact .cons a (b.mono h) ih

/-- The cells of a row, from a place on. -/
def Seg (ρ : Ren) (cs : List Value) (c : Array Value) (δ : Nat) : Prop :=
  (∀ (i : Nat) (v : Value), cs[i]? = some v → ∃ v', c[i + δ]? = some v' ∧ VR ρ v v') ∧ ∀ v ∈ cs, v.oneCell = true

def ObjR (ρ : Ren) (δ z : Nat) : IObj → Option Obj → Prop
  | .cells cs fl, some (.cells c _ fr) => c.size = z ∧ Seg ρ cs c δ ∧ (fl ≠ 1 → fr.2 = 0)
  | .map ag es n, some (.map fs m) => δ = 0 ∧ z = 0 ∧ n = m ∧ ER ρ ag es fs.toList
  | .fmap ag es, some (.map fs _) => δ = 0 ∧ z = 0 ∧ ∃ es', ER ρ ag es' fs.toList ∧ ∀ l, (ifind l es').map (·.1) = (ifind l es).map (·.1)
  | .dead, _ => True
  | _, _ => False

theorem Seg.mono {ρ ρ' : Ren} {cs : List Value} {c : Array Value} {δ : Nat} (h : ρ.le ρ') (k : Seg ρ cs c δ) : Seg ρ' cs c δ :=
  ⟨fun i v e => let ⟨v', e', q⟩ := k.1 i v e; ⟨v', e', q.mono h⟩, k.2⟩
theorem ObjR.mono {ρ ρ' : Ren} {δ z : Nat} {o : IObj} {x : Option Obj} (h : ρ.le ρ') (k : ObjR ρ δ z o x) : ObjR ρ' δ z o x := by
  cases o with
  | cells cs fl => cases x with
    | none => exact k
    | some y => cases y <;> first | exact k | exact ⟨k.1, k.2.1.mono h, k.2.2⟩
  | map ag es n => cases x with
    | none => exact k
    | some y => cases y <;> first | exact k | exact ⟨k.1, k.2.1, k.2.2.1, k.2.2.2.mono h⟩
  | fmap ag es => cases x with
    | none => exact k
    | some y => cases y <;> first | exact k | exact ⟨k.1, k.2.1, k.2.2.choose, k.2.2.choose_spec.1.mono h, k.2.2.choose_spec.2⟩
  | dead => exact trivial

def live : IObj → Bool
  | .dead => false
  | _ => true
def rdonly : IObj → Bool
  | .cells _ fl => fl != 0
  | _ => false

/-- A heap stands to a world. -/
structure Rel (ρ : Ren) (H : IHeap) (w : World) : Prop where
  wf : ∀ b, H.next ≤ b → H.get b = none
  dom : ∀ b r x, ρ b = some (r, x) → r < w.heap.size
  obj : ∀ b r δ z o, ρ b = some (r, δ, z) → H.get b = some o → ObjR ρ δ z o w.heap[r]?
  sep : ∀ b1 b2 r x1 x2 o1 o2, ρ b1 = some (r, x1) → ρ b2 = some (r, x2) → H.get b1 = some o1 → H.get b2 = some o2 →
    live o1 = true → live o2 = true → b1 ≠ b2 → rdonly o1 = true ∧ rdonly o2 = true
  last : ∀ b1 b2 r δ1 δ2 z1 z2 cs1 cs2 fl, ρ b1 = some (r, δ1, z1) → ρ b2 = some (r, δ2, z2) → H.get b1 = some (.cells cs1 2) → H.get b2 = some (.cells cs2 fl) →
    δ2 + cs2.length ≤ δ1 + cs1.length ∧ (fl = 2 → b1 = b2)

/-- What is read alone. -/
def ObjV (ρ : Ren) (δ z : Nat) : IObj → Option Obj → Prop
  | .cells cs _, some (.cells c _ _) => c.size = z ∧ Seg ρ cs c δ
  | .map ag es n, some (.map fs m) => δ = 0 ∧ z = 0 ∧ n = m ∧ ER ρ ag es fs.toList
  | .fmap ag es, some (.map fs _) => δ = 0 ∧ z = 0 ∧ ∃ es', ER ρ ag es' fs.toList ∧ ∀ l, (ifind l es').map (·.1) = (ifind l es).map (·.1)
  | .dead, _ => True
  | _, _ => False
structure RelR (ρ : Ren) (H : IHeap) (w : World) : Prop where
  obj : ∀ b r δ z o, ρ b = some (r, δ, z) → H.get b = some o → ObjV ρ δ z o w.heap[r]?
theorem ObjR.toV {ρ : Ren} {δ z : Nat} {o : IObj} {x : Option Obj} (k : ObjR ρ δ z o x) : ObjV ρ δ z o x := by
  cases o with
  | cells cs fl => cases x with
    | none => exact k
    | some y => cases y <;> first | exact k | exact ⟨k.1, k.2.1⟩
  | map ag es n => cases x with
    | none => exact k
    | some y => cases y <;> exact k
  | fmap ag es => cases x with
    | none => exact k
    | some y => cases y <;> exact k
  | dead => exact trivial
theorem Rel.toR {ρ : Ren} {H : IHeap} {w : World} (h : Rel ρ H w) : RelR ρ H w := ⟨fun _ _ _ _ _ e g => (h.obj _ _ _ _ _ e g).toV⟩

/-- What may have turned: n: the heap's next number ahead, n' behind. -/
structure Ext (lim n n' : Nat) (ρ ρ' : Ren) (w w' : World) : Prop where
  mono : ρ.le ρ'
  size : w.heap.size ≤ w'.heap.size
  os : w'.os = w.os
  tape : w'.tape = w.tape
  output : w'.output = w.output
  kept : ∀ r, r < w.heap.size → (∀ b x, ρ b = some (r, x) → lim ≤ b → b < n → False) → w'.heap[r]? = w.heap[r]?
  fresh : ∀ b r x, ρ' b = some (r, x) → ρ b = none → n ≤ b ∧ b < n' ∧ (w.heap.size ≤ r ∨ ∃ b0 x0, ρ b0 = some (r, x0) ∧ lim ≤ b0 ∧ b0 < n)

def Free (ρ : Ren) (n n' : Nat) : Prop := ∀ b, n ≤ b → b < n' → ρ b = none

theorem Ext.refl (lim n : Nat) (ρ : Ren) (w : World) : Ext lim n n ρ ρ w w :=
  ⟨Ren.le_refl ρ, Nat.le_refl _, rfl, rfl, rfl, fun _ _ _ => rfl, fun b r δ h h' => by rw [h] at h'; simp at h'⟩

theorem Ext.trans {lim n n1 n2 : Nat} {ρ ρ1 ρ2 : Ren} {w w1 w2 : World} (hn : n ≤ n1) (hn2 : n1 ≤ n2) (hf : Free ρ n n2) (h : Ext lim n n1 ρ ρ1 w w1) (k : Ext lim n1 n2 ρ1 ρ2 w1 w2) :
    Ext lim n n2 ρ ρ2 w w2 where
  mono := Ren.le_trans h.mono k.mono
  size := Nat.le_trans h.size k.size
  os := k.os.trans h.os
  tape := k.tape.trans h.tape
  output := k.output.trans h.output
  kept := by
    intro r hr hno
    rw [k.kept r (Nat.lt_of_lt_of_le hr h.size) ?_, h.kept r hr hno]
    intro b δ e hl hb
    cases hx : ρ b with
    | some x =>
      have := h.mono _ _ hx
      rw [e] at this; simp at this; subst this
      by_cases hbn : b < n
      · exact hno _ _ hx hl hbn
      · have := hf b (by omega) (by omega); rw [hx] at this; simp at this
    | none =>
      obtain ⟨_, _, h3 | ⟨b0, δ0, e0, h4, h5⟩⟩ := h.fresh _ _ _ e hx
      · omega
      · exact hno _ _ e0 h4 h5
  fresh := by
    intro b r δ e hx
    cases h1 : ρ1 b with
    | some x =>
      have := k.mono _ _ h1
      rw [e] at this; simp at this; subst this
      obtain ⟨a, b', c⟩ := h.fresh _ _ _ h1 hx
      exact ⟨a, by omega, c⟩
    | none =>
      obtain ⟨a, b', c⟩ := k.fresh _ _ _ e h1
      refine ⟨by omega, b', ?_⟩
      rcases c with c | ⟨b0, δ0, e0, h4, h5⟩
      · left; have := h.size; omega
      · cases h0 : ρ b0 with
        | some x =>
          have := h.mono _ _ h0
          rw [e0] at this; simp at this; subst this
          right
          by_cases hbn : b0 < n
          · exact ⟨b0, _, h0, h4, hbn⟩
          · have := hf b0 (by omega) (by omega); rw [h0] at this; simp at this
        | none =>
          obtain ⟨_, _, c⟩ := h.fresh _ _ _ e0 h0
          exact c

theorem Ext.weaken {lim lim' n n' : Nat} {ρ ρ' : Ren} {w w' : World} (hl : lim ≤ lim') (h : Ext lim' n n' ρ ρ' w w') : Ext lim n n' ρ ρ' w w' where
  mono := h.mono
  size := h.size
  os := h.os
  tape := h.tape
  output := h.output
  kept := fun r hr hno => h.kept r hr fun b δ e a c => hno b δ e (by omega) c
  fresh := fun b r δ e hx => let ⟨a, b', c⟩ := h.fresh b r δ e hx; ⟨a, b', c.imp id fun ⟨b0, δ0, e0, h4, h5⟩ => ⟨b0, δ0, e0, by omega, h5⟩⟩

theorem Free.of_ext {lim n n1 n2 : Nat} {ρ ρ1 : Ren} {w w1 : World} (hn : n ≤ n1) (hf : Free ρ n n2) (h : Ext lim n n1 ρ ρ1 w w1) : Free ρ1 n1 n2 := by
  intro b hb hb2
  cases e : ρ1 b with
  | none => rfl
  | some x =>
    have h0 := hf b (by omega) hb2
    obtain ⟨_, h1, _⟩ := h.fresh _ _ _ e h0
    omega

/-! ### Frames -/
abbrev Lam := Nat → Option Nat

def TR (ρ : Ren) (μ : Lam) : TV → Value → Prop
  | .v x, y => VR ρ x y
  | .lp u o, y => ∃ r, μ u = some r ∧ y = ptr r o
  | .ls u n, y => ∃ r c, μ u = some r ∧ y = .slice (some ⟨r, 0, none⟩) n c
  | .bot, _ => True

/-- A local variable's cells. -/
def LocR (ρ : Ren) (cs : List Value) (w : World) (r : Nat) : Prop :=
  ∃ c t, w.heap[r]? = some (.cells c t (0, 0)) ∧ VRs ρ cs c.toList ∧ ∀ v ∈ cs, v.oneCell = true

structure RelS (ρ : Ren) (μ : Lam) (A : IA) (H : IHeap) (a : Act) (w : World) : Prop where
  rel : Rel ρ H w
  tmp : ∀ t, TR ρ μ (A.tmp t) (a.tmps.getD t undef)
  loc : ∀ u cs, A.loc u = some cs → ∃ r, μ u = some r ∧ LocR ρ cs w r
  priv : ∀ u r, μ u = some r → r < w.heap.size ∧ (∀ b x, ρ b ≠ some (r, x)) ∧ ∀ u', μ u' = some r → u' = u

theorem TR.mono {ρ ρ' : Ren} {μ : Lam} (h : ρ.le ρ') {x : TV} {y : Value} (k : TR ρ μ x y) : TR ρ' μ x y := by
  cases x <;> first | exact VR.mono h k | exact k

end Go.Ideal
/- The ideal machine, part E: the model's operations, held against the cores. -/
namespace Go.Ideal

/-! ### The types of a program -/
section
variable {P : Program}
theorem okT_info {t : TypeId} (h : okT P t = true) : ∃ i, P.info? t = some i := by
  unfold okT at h
  obtain ⟨d, hd⟩ := Option.isSome_iff_exists.1 h
  exact info_of_underlying hd
theorem run_size (w : World) {t : TypeId} (h : okT P t = true) : (sizeOf t).run P w = .ok (tsz P t) w := by
  obtain ⟨i, hi⟩ := okT_info h
  exact run_sizeOf w hi
theorem run_agg (w : World) {t : TypeId} (h : okT P t = true) : (isAgg t).run P w = .ok (tag P t) w := by
  unfold okT at h
  obtain ⟨d, hd⟩ := Option.isSome_iff_exists.1 h
  simp only [isAgg, Sem.run_bind, run_underlying hd, Result.andThen_ok, tag, hd]
  cases d <;> rfl
theorem run_zero (w : World) {t : TypeId} {z : Value} (h : tzero P t = some z) : (zeroValue t).run P w = .ok z w := by
  unfold tzero at h
  cases hi : P.info? t with
  | none => simp [hi] at h
  | some i =>
    simp [hi] at h
    simp [zeroValue, run_typeInfo w hi, h]
end

/-! ### Cells -/
variable {ρ : Ren}

theorem asCell_eq {v c : Value} (h : asCell v = some c) : c = v ∧ v.oneCell = true := by
  cases v <;> simp [asCell] at h <;> exact ⟨h.symm, rfl⟩
theorem asCell_cells {v c : Value} (h : asCell v = some c) : v.cells = #[v] := by
  cases v <;> simp [asCell] at h <;> rfl

/-- What cellsOf gives. -/
theorem cellsOf_sim {ag : Bool} {n : Nat} {v v' : Value} {cs : List Value} (h : cellsOf ag n v = some cs) (hv : VR ρ v v') :
    VRs ρ cs v'.cells.toList ∧ (∀ x ∈ cs, x.oneCell = true) ∧ (ag = true → cs.length = n) ∧ (ag = false → cs.length = 1) := by
  cases ag with
  | true =>
    simp only [cellsOf, cond_true] at h
    cases hv with
    | agg hab hc =>
      simp [asAggN] at h
      obtain ⟨h1, rfl⟩ := h
      exact ⟨hab, hc, fun _ => h1, by simp⟩
    | _ => simp [asAggN] at h
  | false =>
    simp only [cellsOf, cond_false] at h
    cases hc : asCell v with
    | none => simp [hc] at h
    | some c =>
      simp [hc] at h
      obtain ⟨rfl, h1⟩ := asCell_eq hc
      subst h
      have h2 : v'.cells = #[v'] := by
        have : v'.oneCell = true := hv.oneCell.trans h1
        cases v' <;> simp [Value.oneCell] at this <;> rfl
      rw [h2]
      exact ⟨.cons hv .nil, by simpa using h1, by simp, by simp⟩

theorem oneCell_eq (v : Value) : v.oneCell' = v.oneCell := by cases v <;> rfl
theorem VRs.one {l m : List Value} (h : VRs ρ l m) (k : ∀ v ∈ l, v.oneCell = true) : ∀ v ∈ m, v.oneCell = true := by
  induction l generalizing m with
  | nil => cases h; simp
  | cons a l ih =>
    cases h with
    | cons x y =>
      intro v hv
      rcases List.mem_cons.1 hv with rfl | hv
      · exact x.oneCell.trans (k _ (by simp))
      · exact ih y (fun z hz => k z (by simp [hz])) v hv

theorem add_plain (g o j : Nat) : (⟨g, o, none⟩ : Addr).add j = ⟨g, o + j, none⟩ := by unfold Addr.add; split <;> simp_all

theorem Seg.size {cs : List Value} {c : Array Value} {δ : Nat} (h : Seg ρ cs c δ) {i : Nat} (hi : i < cs.length) : i + δ < c.size := by
  obtain ⟨v', e, _⟩ := h.1 i cs[i] (by simp [hi])
  rcases Nat.lt_or_ge (i + δ) c.size with h' | h'
  · exact h'
  · simp [Array.getElem?_eq_none h'] at e

/-- A piece of a row. -/
theorem Seg.piece {cs : List Value} {c : Array Value} {δ : Nat} (h : Seg ρ cs c δ) (o n : Nat) (hl : o + n ≤ cs.length) :
    VRs ρ ((cs.drop o).take n) ((c.toList.drop (o + δ)).take n) ∧ (n = 0 ∨ o + δ + n ≤ c.size) := by
  have hs : n = 0 ∨ o + δ + n ≤ c.size := by
    rcases Nat.eq_zero_or_pos n with h0 | h0
    · exact .inl h0
    · have := h.size (i := o + n - 1) (by omega); right; omega
  refine ⟨?_, hs⟩
  rcases hs with rfl | hs
  · simp; exact .nil
  refine VRs.of_get ?_ ?_
  · simp; omega
  · intro i v e
    rw [List.getElem?_take] at e
    split at e
    · rename_i hi
      rw [List.getElem?_drop] at e
      obtain ⟨v', e', hv⟩ := h.1 _ _ e
      refine ⟨v', ?_, hv⟩
      rw [List.getElem?_take, if_pos hi, List.getElem?_drop]
      rw [← e', ← Array.getElem?_toList]
      congr 1; omega
    · simp at e

/-- Cells of a row that are read. -/
theorem run_cells (P : Program) (w : World) (r p n : Nat) (c : Array Value) (t : TypeId) (fr : Nat × Nat) (hw : w.heap[r]? = some (.cells c t fr)) (hn : n = 0 ∨ p + n ≤ c.size) :
    (loadCells ⟨r, p, none⟩ n).run P w = .ok ((c.toList.drop p).take n).toArray w := by
  have hl : ((c.toList.drop p).take n).length = n := by
    rcases hn with rfl | hn
    · simp
    · simp; omega
  have := run_loadCells_list (P := P) w ⟨r, p, none⟩ ((c.toList.drop p).take n) (by
    intro j v e
    rw [List.getElem?_take] at e
    split at e
    · rw [List.getElem?_drop] at e
      rw [add_plain]
      simp only [World.cell?, hw]
      simpa using e
    · simp at e)
  rw [hl] at this
  exact this

/-- A variable that is read out of a row. -/
theorem iload_sim {P : Program} {w : World} {r δ : Nat} {cs : List Value} {c : Array Value} {tt : TypeId} {fr : Nat × Nat} (hw : w.heap[r]? = some (.cells c tt fr)) (hs : Seg ρ cs c δ)
    {t : TypeId} (ht : okT P t = true) {o : Nat} {v : Value} (h : iload (tag P t) (tsz P t) cs o = some v) :
    ∃ v', (loadVar t ⟨r, o + δ, none⟩).run P w = .ok v' w ∧ VR ρ v v' := by
  unfold iload at h
  simp only [loadVar, Sem.run_bind, run_agg w ht, Result.andThen_ok, Sem.run_ite]
  cases hg : tag P t with
  | true =>
    simp only [hg, cond_true] at h
    split at h
    · rename_i hl
      simp at h; subst h
      obtain ⟨hv, hb⟩ := hs.piece o (tsz P t) hl
      refine ⟨.agg ((c.toList.drop (o + δ)).take (tsz P t)).toArray, ?_, ?_⟩
      · simp only [if_true, run_size w ht, Result.andThen_ok, run_cells P w r (o + δ) (tsz P t) c tt fr hw (by omega), Sem.run_pure]
      · exact VR.agg hv fun x hx => hs.2 x (List.mem_of_mem_drop (List.mem_of_mem_take hx))
    · simp at h
  | false =>
    simp only [hg, cond_false] at h
    obtain ⟨v', e, hv⟩ := hs.1 o v h
    refine ⟨v', ?_, hv⟩
    simp only [Bool.false_eq_true, if_false, run_load, World.cell?, hw]
    simp [e]

/-- A piece of a row is another one. -/
def splice (c : Array Value) (p : Nat) (l : List Value) : Array Value := (c.toList.take p ++ l ++ c.toList.drop (p + l.length)).toArray
theorem splice_size (c : Array Value) (p : Nat) (l : List Value) (h : p + l.length ≤ c.size) : (splice c p l).size = c.size := by simp [splice]; omega
theorem splice_get (c : Array Value) (p : Nat) (l : List Value) (h : p + l.length ≤ c.size) (i : Nat) :
    (splice c p l)[i]? = if i < p then c[i]? else if i < p + l.length then l[i - p]? else c[i]? := by
  unfold splice
  rw [List.getElem?_toArray]
  by_cases h1 : i < p
  · rw [if_pos h1, List.append_assoc, List.getElem?_append_left (by simp; omega), List.getElem?_take, if_pos h1, Array.getElem?_toList]
  · rw [if_neg h1, List.append_assoc, List.getElem?_append_right (by simp; omega)]
    have e1 : (List.take p c.toList).length = p := by simp; omega
    rw [e1]
    by_cases h2 : i < p + l.length
    · rw [if_pos h2, List.getElem?_append_left (by omega)]
    · rw [if_neg h2, List.getElem?_append_right (by omega), List.getElem?_drop, Array.getElem?_toList]
      congr 1; omega

theorem run_storeRow (P : Program) (w : World) (r p : Nat) (vs : List Value) (c : Array Value) (t : TypeId) (fr : Nat × Nat) (hw : w.heap[r]? = some (.cells c t fr)) (hf : fr.2 = 0)
    (hl : p + vs.length ≤ c.size) (h1 : ∀ v ∈ vs, v.oneCell = true) : (storeCells ⟨r, p, none⟩ vs).run P w = .ok () (w.setRow r (splice c p vs)) := by
  have h1' : ∀ v ∈ vs, v.oneCell' = true := fun v hv => (oneCell_eq v).trans (h1 v hv)
  have := run_storeCells_atF P r p t fr vs 0 c w hw (by omega) (by omega) h1'
  simpa [splice] using this
end Go.Ideal
/- The ideal machine, part F: continuations can be taken apart. -/
namespace Go.Ideal
variable {ρ σ : Type}

theorem obind_assoc {α β γ : Type} (o : Option α) (f : α → Option β) (g : β → Option γ) : (o.bind f).bind g = o.bind fun a => (f a).bind g := by cases o <;> rfl
theorem ifillK_bind (pl : Nat → Option (Nat × Nat × Bool)) (k : List Value → Option ρ) : ∀ (l : List (Nat × Value)) (cs : List Value), ifillK pl cs l k = (ifillK pl cs l some).bind k
  | [], cs => rfl
  | (i, v) :: r, cs => by
    simp only [ifillK]
    rw [obind_assoc]
    congr 1; funext ⟨o, s, g⟩
    simp only [obind_assoc]
    congr 1; funext cs'
    exact ifillK_bind pl k r cs'
theorem cond_bind {α β : Type} (c : Bool) (x y : Option α) (k : α → Option β) : (bif c then x else y).bind k = bif c then x.bind k else y.bind k := by cases c <;> rfl

theorem obind_congr {α β : Type} {o : Option α} {f g : α → Option β} (h : ∀ a, f a = g a) : o.bind f = o.bind g := by rw [funext h]
theorem cond_congr2 {α : Type} {c : Bool} {x y x' y' : α} (h : x = x') (k : y = y') : (bif c then x else y) = bif c then x' else y' := by rw [h, k]
theorem ifillK_congr (pl : Nat → Option (Nat × Nat × Bool)) (cs : List Value) (l : List (Nat × Value)) (f : List Value → Option σ) (k : σ → Option ρ) (g : List Value → Option ρ)
    (h : ∀ a, g a = (f a).bind k) : ifillK pl cs l g = (ifillK pl cs l f).bind k := by
  rw [ifillK_bind pl f, ifillK_bind pl g, obind_assoc, funext h]

theorem iopK_bind (P : Program) (pr : Prm) (lim : Nat) (A : IA) (H : IHeap) (d : Option Tmp) (op : Op) (k : R1 → Option ρ) :
    iopK P pr lim A H d op k = (iopK P pr lim A H d op some).bind k := by
  unfold iopK
  split <;> simp only [kv, kh, kvh, inew, iloadK, istoreK, iaddK, irowK, obind_assoc, Option.bind_some, Option.bind_none, cond_bind]
  all_goals repeat' (first
    | rfl
    | (refine obind_congr fun _ => ?_)
    | (refine cond_congr2 ?_ ?_)
    | (refine ifillK_congr _ _ _ _ _ _ fun _ => ?_)
    | split
    | simp only [obind_assoc, Option.bind_some, Option.bind_none, cond_bind])

theorem finK_bind (W : List Nat) (A : IA) (H : IHeap) (d : Option Tmp) (r : R1) (k : IA → IHeap → Option ρ) :
    r.finK W A H d k = (r.finK W A H d fun a h => some (a, h)).bind fun x => k x.1 x.2 := by
  cases r <;> simp only [R1.finK, Option.bind_some, cond_bind, Option.bind_none]

theorem iwantK_bind (P : Program) (E : Env) (pr : Prm) (lim : Nat) (q : Bool) (W : List Nat) (o : Oper) (A : IA) (H : IHeap) (k : IA → IHeap → Option ρ) :
    iwantK P E pr lim q W o A H k = (iwant P E pr lim q W o A H).bind fun x => k x.1 x.2 := by
  unfold iwant iwantK
  split
  · split
    · rw [iopK_bind, iopK_bind (k := fun r => r.finK W A H o.dst fun A' H' => some (A', H')), obind_assoc]
      refine obind_congr fun r => ?_
      exact finK_bind ..
    · simp only [obind_assoc]
      refine obind_congr fun x => ?_
      refine obind_congr fun vs => ?_
      unfold funcK
      split
      · simp only [obind_assoc, callK]
        rfl
      · rfl
    · rfl
  · rw [iopK_bind, iopK_bind (k := fun r => r.finK W A H o.dst fun A' H' => some (A', H')), obind_assoc]
    refine obind_congr fun r => ?_
    exact finK_bind ..
end Go.Ideal
/- The ideal machine, part H: heaps that turn. -/
namespace Go.Ideal
variable {ρ : Ren} {H : IHeap} {w : World}

theorem Rel.lt {b : Nat} {o : IObj} (h : Rel ρ H w) (e : H.get b = some o) : b < H.next := by
  rcases Nat.lt_or_ge b H.next with h' | h'
  · exact h'
  · rw [h.wf b h'] at e; simp at e

/-- The new block's name. -/
def Ren.add (ρ : Ren) (n r δ z : Nat) : Ren := fun b => if b = n then some (r, δ, z) else ρ b
theorem Ren.le_add {n r δ z : Nat} (h : ρ n = none) : ρ.le (ρ.add n r δ z) := by
  intro b x e
  unfold Ren.add
  split
  · rename_i hb; subst hb; rw [h] at e; simp at e
  · exact e
@[simp] theorem Ren.add_self {n r δ z : Nat} : ρ.add n r δ z n = some (r, δ, z) := by simp [Ren.add]

/-- A world with one object more, or one turned. -/
structure Turn (w w' : World) (r : Nat) (x : Obj) : Prop where
  at_ : w'.heap[r]? = some x
  rest : ∀ k, k < w.heap.size → k ≠ r → w'.heap[k]? = w.heap[k]?
  size : w.heap.size ≤ w'.heap.size
  os : w'.os = w.os
  tape : w'.tape = w.tape
  output : w'.output = w.output
theorem Turn.alloc (w : World) (x : Obj) : Turn w (w.alloc x) w.heap.size x where
  at_ := by show (w.heap.push x)[w.heap.size]? = some x; simp
  rest := fun k hk _ => by show (w.heap.push x)[k]? = _; rw [Array.getElem?_push, if_neg (by omega)]
  size := by simp
  os := rfl
  tape := rfl
  output := rfl
theorem Turn.row {c c' : Array Value} {t : TypeId} {fr : Nat × Nat} {r : Nat} (h : w.heap[r]? = some (.cells c t fr)) : Turn w (w.setRow r c') r (.cells c' t fr) where
  at_ := setRow_heap w r c c' t fr h
  rest := fun k _ hk => setRow_other w r k c' hk
  size := by simp
  os := rfl
  tape := rfl
  output := rfl
theorem Turn.lt {w' : World} {r : Nat} {x : Obj} (h : Turn w w' r x) : r < w'.heap.size := by
  rcases Nat.lt_or_ge r w'.heap.size with h' | h'
  · exact h'
  · have := h.at_; rw [Array.getElem?_eq_none h'] at this; simp at this
theorem Turn.drew {w' : World} {r : Nat} {x : Obj} (h : Turn w.drew w' r x) : Turn w w' r x := ⟨h.at_, h.rest, h.size, h.os, h.tape, h.output⟩
theorem Turn.set {w : World} {r : Nat} {x y : Obj} (h : w.heap[r]? = some y) : Turn w { w with heap := w.heap.setIfInBounds r x } r x where
  at_ := by
    have : r < w.heap.size := by
      rcases Nat.lt_or_ge r w.heap.size with h' | h'
      · exact h'
      · rw [Array.getElem?_eq_none h'] at h; simp at h
    simp [this]
  rest := fun k _ hk => by simp [Array.getElem?_setIfInBounds]; intro e; exact absurd e.symm hk
  size := by simp
  os := rfl
  tape := rfl
  output := rfl

/-- A new block. -/
theorem Rel.push {w' : World} {x : Obj} {o : IObj} {z : Nat} (h : Rel ρ H w) (hn : ρ H.next = none) (ht : Turn w w' w.heap.size x) (ho : ObjR (ρ.add H.next w.heap.size 0 z) 0 z o (some x)) :
    Rel (ρ.add H.next w.heap.size 0 z) (H.push o) w' where
  wf := fun b hb => by rw [IHeap.get_push, if_neg (by simp at hb; omega)]; exact h.wf b (by simp at hb; omega)
  dom := fun b r δ e => by
    unfold Ren.add at e
    split at e
    · simp at e; have := ht.lt; omega
    · have := h.dom _ _ _ e; have := ht.size; omega
  obj := fun b r δ z' o' e g => by
    rw [IHeap.get_push] at g
    unfold Ren.add at e
    split at e
    · rename_i hb
      rw [if_pos hb] at g
      simp at e g
      obtain ⟨rfl, rfl, rfl⟩ := e; subst g
      rw [ht.at_]; exact ho
    · rename_i hb
      rw [if_neg hb] at g
      have hr := h.dom _ _ _ e
      rw [ht.rest r hr (by omega)]
      exact (h.obj _ _ _ _ _ e g).mono (Ren.le_add hn)
  sep := fun b1 b2 r δ1 δ2 o1 o2 e1 e2 g1 g2 l1 l2 hne => by
    rw [IHeap.get_push] at g1 g2
    unfold Ren.add at e1 e2
    split at e1 <;> split at e2
    · rename_i a b; exact absurd (a.trans b.symm) hne
    · simp at e1; have := h.dom _ _ _ e2; omega
    · simp at e2; have := h.dom _ _ _ e1; omega
    · rename_i a b
      rw [if_neg a] at g1; rw [if_neg b] at g2
      exact h.sep _ _ _ _ _ _ _ e1 e2 g1 g2 l1 l2 hne
  last := fun b1 b2 r δ1 δ2 z1 z2 cs1 cs2 fl e1 e2 g1 g2 => by
    rw [IHeap.get_push] at g1 g2
    unfold Ren.add at e1 e2
    split at e1 <;> split at e2
    · rename_i a b
      rw [if_pos a] at g1; rw [if_pos b] at g2
      rw [g1] at g2; simp at g2 e1 e2
      obtain ⟨rfl, _⟩ := g2; exact ⟨by omega, fun _ => a.trans b.symm⟩
    · simp at e1; have := h.dom _ _ _ e2; omega
    · simp at e2; have := h.dom _ _ _ e1; omega
    · rename_i a b
      rw [if_neg a] at g1; rw [if_neg b] at g2
      exact h.last _ _ _ _ _ _ _ _ _ _ e1 e2 g1 g2

theorem Ext.push {lim z : Nat} {w' : World} {x : Obj} (hn : ρ H.next = none) (ht : Turn w w' w.heap.size x) : Ext lim H.next (H.next + 1) ρ (ρ.add H.next w.heap.size 0 z) w w' where
  mono := Ren.le_add hn
  size := ht.size
  os := ht.os
  tape := ht.tape
  output := ht.output
  kept := fun r hr _ => ht.rest r hr (by omega)
  fresh := fun b r δ e hx => by
    unfold Ren.add at e
    split at e
    · simp at e; exact ⟨by omega, by omega, .inl (by omega)⟩
    · rw [hx] at e; simp at e

/-- A block is turned (what stood there may be written). -/
theorem Rel.set {w' : World} {x : Obj} {o o' : IObj} {b r δ z : Nat} (h : Rel ρ H w) (hb : ρ b = some (r, δ, z)) (hg : H.get b = some o) (hl : live o = true) (hr : rdonly o = false)
    (ht : Turn w w' r x) (ho : ObjR ρ δ z o' (some x)) (hr' : rdonly o' = false) : Rel ρ (H.set b o') w' where
  wf := fun c hc => by
    have := h.lt hg
    rw [IHeap.get_set, if_neg (by simp at hc; omega)]; exact h.wf c hc
  dom := fun c r' δ' e => by have := h.dom _ _ _ e; have := ht.size; omega
  obj := fun c r' δ' z' o2 e g => by
    rw [IHeap.get_set] at g
    split at g
    · rename_i hc; subst hc
      rw [hb] at e; simp at e g
      obtain ⟨rfl, rfl, rfl⟩ := e; subst g
      rw [ht.at_]; exact ho
    · rename_i hc
      by_cases hrr : r' = r
      · subst hrr
        cases hlv : live o2 with
        | false => cases o2 <;> simp [live] at hlv; exact trivial
        | true =>
          have := (h.sep _ _ _ _ _ _ _ hb e hg g hl hlv (fun e => hc e.symm)).1
          rw [hr] at this; simp at this
      · rw [ht.rest _ (h.dom _ _ _ e) hrr]
        exact h.obj _ _ _ _ _ e g
  sep := fun b1 b2 r' δ1 δ2 o1 o2 e1 e2 g1 g2 l1 l2 hne => by
    rw [IHeap.get_set] at g1 g2
    split at g1 <;> split at g2
    · rename_i a c; exact absurd (a.trans c.symm) hne
    · rename_i a c
      subst a; rw [hb] at e1; simp at e1; obtain ⟨rfl, rfl⟩ := e1
      have := (h.sep _ _ _ _ _ _ _ hb e2 hg g2 hl l2 hne).1
      rw [hr] at this; simp at this
    · rename_i a c
      subst c; rw [hb] at e2; simp at e2; obtain ⟨rfl, rfl⟩ := e2
      have := (h.sep _ _ _ _ _ _ _ e1 hb g1 hg l1 hl hne).2
      rw [hr] at this; simp at this
    · exact h.sep _ _ _ _ _ _ _ e1 e2 g1 g2 l1 l2 hne
  last := fun b1 b2 r' δ1 δ2 z1 z2 cs1 cs2 fl e1 e2 g1 g2 => by
    rw [IHeap.get_set] at g1 g2
    split at g1 <;> split at g2
    · simp at g1; subst g1; simp [rdonly] at hr'
    · simp at g1; subst g1; simp [rdonly] at hr'
    · rename_i a c
      subst c; rw [hb] at e2; simp at e2; obtain ⟨rfl, rfl, rfl⟩ := e2
      have := (h.sep _ _ _ _ _ _ _ e1 hb g1 hg rfl hl a).2
      rw [hr] at this; simp at this
    · exact h.last _ _ _ _ _ _ _ _ _ _ e1 e2 g1 g2

theorem Ext.set {lim : Nat} {w' : World} {x : Obj} {b r : Nat} {x0 : Nat × Nat} (hb : ρ b = some (r, x0)) (hl : lim ≤ b) (hn : b < H.next) (ht : Turn w w' r x) : Ext lim H.next H.next ρ ρ w w' where
  mono := Ren.le_refl _
  size := ht.size
  os := ht.os
  tape := ht.tape
  output := ht.output
  kept := fun k hk hno => by
    by_cases e : k = r
    · subst e; exact (hno _ _ hb hl hn).elim
    · exact ht.rest k hk e
  fresh := fun b r δ e hx => by rw [hx] at e; simp at e
end Go.Ideal
/- The ideal machine, part I: the cores, one by one. -/
namespace Go.Ideal
variable {ρ : Ren} {H : IHeap} {w : World} {P : Program}

theorem hcells_eq {b : Nat} {cs : List Value} {fl : Nat} (h : hcells H b = some (cs, fl)) : H.get b = some (.cells cs fl) := by
  unfold hcells at h
  cases e : H.get b with
  | none => simp [e] at h
  | some o => cases o <;> simp [e] at h; obtain ⟨rfl, rfl⟩ := h; rfl

/-- A row of cells that is there. -/
theorem Rel.row {b r δ z : Nat} {cs : List Value} {fl : Nat} (h : Rel ρ H w) (hb : ρ b = some (r, δ, z)) (hg : H.get b = some (.cells cs fl)) :
    ∃ c t fr, w.heap[r]? = some (.cells c t fr) ∧ c.size = z ∧ Seg ρ cs c δ ∧ (fl ≠ 1 → fr.2 = 0) := by
  have := h.obj _ _ _ _ _ hb hg
  cases e : w.heap[r]? with
  | none => rw [e] at this; exact this.elim
  | some x =>
    rw [e] at this
    cases x <;> first | exact this.elim | exact ⟨_, _, _, rfl, this.1, this.2.1, this.2.2⟩
theorem Rel.map {b r δ z : Nat} {ag : Nat} {es : List Ent} {n : Nat} (h : Rel ρ H w) (hb : ρ b = some (r, δ, z)) (hg : H.get b = some (.map ag es n)) :
    ∃ fs, w.heap[r]? = some (.map fs n) ∧ ER ρ ag es fs.toList := by
  have := h.obj _ _ _ _ _ hb hg
  cases e : w.heap[r]? with
  | none => rw [e] at this; exact this.elim
  | some x =>
    rw [e] at this
    cases x <;> first | exact this.elim | (obtain ⟨_, _, rfl, k⟩ := this; exact ⟨_, rfl, k⟩)

theorem RelR.row {b r δ z : Nat} {cs : List Value} {fl : Nat} (h : RelR ρ H w) (hb : ρ b = some (r, δ, z)) (hg : H.get b = some (.cells cs fl)) :
    ∃ c t fr, w.heap[r]? = some (.cells c t fr) ∧ c.size = z ∧ Seg ρ cs c δ := by
  have := h.obj _ _ _ _ _ hb hg
  cases e : w.heap[r]? with
  | none => rw [e] at this; exact this.elim
  | some x =>
    rw [e] at this
    cases x <;> first | exact this.elim | exact ⟨_, _, _, rfl, this.1, this.2⟩
theorem RelR.map {b r δ z : Nat} {ag : Nat} {es : List Ent} {n : Nat} (h : RelR ρ H w) (hb : ρ b = some (r, δ, z)) (hg : H.get b = some (.map ag es n)) :
    ∃ fs, w.heap[r]? = some (.map fs n) ∧ ER ρ ag es fs.toList := by
  have := h.obj _ _ _ _ _ hb hg
  cases e : w.heap[r]? with
  | none => rw [e] at this; exact this.elim
  | some x =>
    rw [e] at this
    cases x <;> first | exact this.elim | (obtain ⟨_, _, rfl, k⟩ := this; exact ⟨_, rfl, k⟩)

theorem RelR.fmap {b r δ z : Nat} {ag : Nat} {es : List Ent} (h : RelR ρ H w) (hb : ρ b = some (r, δ, z)) (hg : H.get b = some (.fmap ag es)) :
    ∃ fs m es', w.heap[r]? = some (.map fs m) ∧ ER ρ ag es' fs.toList ∧ ∀ l, (ifind l es').map (·.1) = (ifind l es).map (·.1) := by
  have := h.obj _ _ _ _ _ hb hg
  cases e : w.heap[r]? with
  | none => rw [e] at this; exact this.elim
  | some x =>
    rw [e] at this
    cases x <;> first | exact this.elim | (obtain ⟨_, _, es', k1, k2⟩ := this; exact ⟨_, _, es', rfl, k1, k2⟩)

theorem VR.ptr_inv {b o : Nat} {y : Value} (h : VR ρ (Ideal.ptr b o) y) : ∃ r δ z, ρ b = some (r, δ, z) ∧ y = Ideal.ptr r (o + δ) := by
  cases h with
  | ptr _ e => exact ⟨_, _, _, e, rfl⟩

/-- What hload takes apart. -/
theorem ptr_of {x : Value} {α : Type} {f : Nat → Nat → Option α} {v : α} (h : (match x with | .pointer (some ⟨b, o, none⟩) => f b o | _ => none) = some v) : ∃ b o, x = ptr b o ∧ f b o = some v := by
  split at h
  · exact ⟨_, _, rfl, h⟩
  · simp at h

theorem hload_sim (hR : RelR ρ H w) {t : TypeId} (ht : okT P t = true) {x x' v : Value} (h : hload (tag P t) (tsz P t) H x = some v) (hx : VR ρ x x') :
    ∃ v', (Instr.loadAt t x').run P w = .ok v' w ∧ VR ρ v v' := by
  obtain ⟨b, o, rfl, h⟩ := ptr_of h
  obtain ⟨⟨cs, fl⟩, hc, h⟩ := Option.bind_eq_some_iff.1 h
  obtain ⟨r, δ, z, hb, rfl⟩ := hx.ptr_inv
  obtain ⟨c, tt, fr, hw, hz, hs⟩ := hR.row hb (hcells_eq hc)
  obtain ⟨v', e, hv⟩ := iload_sim hw hs ht h
  exact ⟨v', by simpa [Instr.loadAt, Instr.sureAddr] using e, hv⟩

/-- What istore gives: a piece turned. -/
theorem istore_sim {ag : Bool} {size o : Nat} {cs cs' : List Value} {v v' : Value} (h : istore ag size cs o v = some cs') (hv : VR ρ v v') :
    v'.cells.size = size ∧ o + size ≤ cs.length ∧ (∀ x ∈ v'.cells.toList, x.oneCell = true) ∧
    ∃ l, VRs ρ l v'.cells.toList ∧ (∀ x ∈ l, x.oneCell = true) ∧ l.length = size ∧ cs' = cs.take o ++ l ++ cs.drop (o + size) := by
  unfold istore at h
  cases ag with
  | true =>
    simp only [cond_true] at h
    obtain ⟨l, hl, h⟩ := Option.bind_eq_some_iff.1 h
    split at h
    · rename_i hlen
      have h := Option.some.inj h
      obtain ⟨k1, k2, k3, _⟩ := cellsOf_sim (ag := true) (n := size) (cs := l) (by simpa [cellsOf] using hl) hv
      have := k1.length
      refine ⟨by rw [← Array.length_toList, ← this]; exact k3 rfl, hlen, k1.one k2, l, k1, k2, k3 rfl, h.symm⟩
    · simp at h
  | false =>
    simp only [cond_false] at h
    obtain ⟨c, hc, h⟩ := Option.bind_eq_some_iff.1 h
    split at h
    · rename_i hlen
      have h2 := Option.some.inj h
      obtain ⟨hlen, rfl⟩ := hlen
      obtain ⟨k1, k2, _, k4⟩ := cellsOf_sim (ag := false) (n := 1) (cs := [c]) (by simp [cellsOf, hc]) hv
      have := k1.length
      refine ⟨by rw [← Array.length_toList, ← this]; rfl, by omega, k1.one k2, [c], k1, k2, rfl, ?_⟩
      rw [← h2, List.set_eq_take_append_cons_drop, if_pos hlen]
      simp
    · simp at h

theorem Seg.splice {cs : List Value} {c : Array Value} {δ o size : Nat} (h : Seg ρ cs c δ) {l l' : List Value} (hl : VRs ρ l l') (h1 : ∀ x ∈ l, x.oneCell = true) (hs : l.length = size) (ho : o + size ≤ cs.length) :
    Seg ρ (cs.take o ++ l ++ cs.drop (o + size)) (Ideal.splice c (o + δ) l') δ ∧ (size = 0 ∨ o + δ + l'.length ≤ c.size) := by
  have hll := hl.length
  have hb : size = 0 ∨ o + δ + l'.length ≤ c.size := by
    rcases Nat.eq_zero_or_pos size with h0 | h0
    · exact .inl h0
    · have := h.size (i := o + size - 1) (by omega); right; omega
  refine ⟨⟨?_, ?_⟩, hb⟩
  · intro i v e
    rcases hb with h0 | hb
    · have : l = [] := List.eq_nil_of_length_eq_zero (by omega)
      subst this
      have : l' = [] := List.eq_nil_of_length_eq_zero (by simpa using hll.symm)
      subst this
      subst h0
      simp at e
      have e2 : Ideal.splice c (o + δ) [] = c := by simp [Ideal.splice]
      rw [e2]
      exact h.1 i v e
    · rw [splice_get c _ _ hb]
      have e0 : (cs.take o).length = o := by simp; omega
      by_cases h1 : i < o
      · rw [if_pos (by omega)]
        rw [List.append_assoc, List.getElem?_append_left (by omega), List.getElem?_take, if_pos h1] at e
        exact h.1 i v e
      · rw [if_neg (by omega)]
        rw [List.append_assoc, List.getElem?_append_right (by omega), e0] at e
        by_cases h2 : i < o + size
        · rw [if_pos (by omega)]
          rw [List.getElem?_append_left (by omega)] at e
          obtain ⟨v', e', k⟩ := hl.get e
          exact ⟨v', by rw [show i + δ - (o + δ) = i - o by omega]; exact e', k⟩
        · rw [if_neg (by omega)]
          rw [List.getElem?_append_right (by omega), List.getElem?_drop] at e
          have := h.1 _ _ e
          rw [show o + size + (i - o - l.length) = i by omega] at this
          exact this
  · intro v hv
    simp only [List.mem_append] at hv
    rcases hv with (hv | hv) | hv
    · exact h.2 v (List.mem_of_mem_take hv)
    · exact h1 v hv
    · exact h.2 v (List.mem_of_mem_drop hv)

theorem hstore_sim (hR : Rel ρ H w) {t : TypeId} (ht : okT P t = true) {lim : Nat} {x x' v v' : Value} {H' : IHeap} (h : hstore (tag P t) (tsz P t) lim H x v = some H') (hx : VR ρ x x') (hv : VR ρ v v') :
    ∃ w', (Instr.storeAt t x' v').run P w = .ok () w' ∧ Rel ρ H' w' ∧ Ext lim H.next H'.next ρ ρ w w' ∧ H'.next = H.next := by
  obtain ⟨b, o, rfl, h⟩ := ptr_of h
  obtain ⟨⟨cs, fl⟩, hc, h⟩ := Option.bind_eq_some_iff.1 h
  have hg := hcells_eq hc
  obtain ⟨r, δ, z, hb, rfl⟩ := hx.ptr_inv
  obtain ⟨c, tt, fr, hw, hz, hs, hf⟩ := hR.row hb hg
  simp only at h
  cases hcond : decide (lim ≤ b) && fl == 0 with
  | false => simp [hcond] at h
  | true =>
    simp only [hcond, cond_true] at h
    obtain ⟨cs', hst, h⟩ := Option.bind_eq_some_iff.1 h
    simp at h hcond
    obtain ⟨hl, rfl⟩ := hcond
    obtain ⟨k1, k2, k3, l, k4, k5, k6, rfl⟩ := istore_sim hst hv
    obtain ⟨s1, s2⟩ := hs.splice k4 k5 k6 k2
    have hfr := hf (by omega)
    have hll := k4.length
    have hsz : tsz P t = 0 ∨ o + δ + v'.cells.toList.length ≤ c.size := s2
    subst h
    by_cases h0 : tsz P t = 0
    · -- nothing is stored
      have e0 : v'.cells.toList = [] := List.eq_nil_of_length_eq_zero (by rw [Array.length_toList, k1, h0])
      have e1 : l = [] := List.eq_nil_of_length_eq_zero (by omega)
      have hsame : cs.take o ++ l ++ cs.drop (o + tsz P t) = cs := by rw [e1, h0]; simp
      refine ⟨w, ?_, ?_, ?_, rfl⟩
      · simp only [Instr.storeAt, Instr.sureAddr, Sem.run_bind, Sem.run_pure, Result.andThen_ok, storeVar, run_size w ht, k1, ne_eq, not_true_eq_false, if_false]
        rw [e0]; rfl
      · rw [hsame]
        refine hR.set hb hg rfl rfl ⟨hw, fun _ _ _ => rfl, Nat.le_refl _, rfl, rfl, rfl⟩ ⟨hz, hs, fun _ => hfr⟩ rfl
      · exact Ext.refl _ _ _ _
    · have hb2 : o + δ + v'.cells.toList.length ≤ c.size := by omega
      refine ⟨w.setRow r (Ideal.splice c (o + δ) v'.cells.toList), ?_, ?_, ?_, rfl⟩
      · simp only [Instr.storeAt, Instr.sureAddr, Sem.run_bind, Sem.run_pure, Result.andThen_ok, storeVar, run_size w ht, k1, ne_eq, not_true_eq_false, if_false]
        simpa using run_storeRow P w r (o + δ) v'.cells.toList c tt fr hw hfr hb2 k3
      · exact hR.set hb hg rfl rfl (Turn.row hw) ⟨(splice_size c _ _ hb2).trans hz, s1, fun _ => hfr⟩ rfl
      · exact Ext.set hb hl (hR.lt hg) (Turn.row hw)

/-! ### Numbers -/
theorem iint_sim {op : BinOp} {k : IntKind} {a b : Int} {v : Value} {t : TypeId} (h : iint op k a b = some v) :
    (Go.binOp op t (.int k a) (.int k b)).run P w = .ok v w ∧ VR ρ v v := by
  cases op <;> simp only [iint] at h <;> (try (split at h)) <;> simp at h <;> subst h <;>
    refine ⟨?_, by constructor⟩ <;> simp_all [Go.binOp, Op.intArith, Op.intDiv, Op.intBits, Op.intCmp]
theorem ishift_sim {op : BinOp} {k k' : IntKind} {a b : Int} {v : Value} {t : TypeId} (ho : op = .shl ∨ op = .shr) (h : ishift op k a b = some v) :
    (Go.binOp op t (.int k a) (.int k' b)).run P w = .ok v w ∧ VR ρ v v := by
  unfold ishift at h
  split at h
  · simp at h
  · rename_i hb
    rcases ho with rfl | rfl <;> simp at h <;> subst h <;> refine ⟨?_, by constructor⟩ <;> simp [Go.binOp, Op.shift, hb]
end Go.Ideal
/- The ideal machine, part J: what is compared, and plain values. -/
namespace Go.Ideal
variable {ρ : Ren} {H : IHeap} {w : World} {P : Program}

theorem oneTy_sz {u : TypeId} {b : Bool} (h : oneTy P u = some b) : tsz P u = 1 ∧ tag P u = false ∧ okT P u = true ∧ (b = false → P.underlying u = some (.int .i64)) ∧ (b = true → P.underlying u = some .bool) := by
  unfold oneTy at h
  split at h
  · rename_i hu
    cases hs : tsz P u == 1 <;> simp [hs] at h
    subst h
    exact ⟨by simpa using hs, by simp [tag, hu], by simp [okT, hu], fun _ => hu, by simp⟩
  · rename_i hu
    cases hs : tsz P u == 1 <;> simp [hs] at h
    subst h
    exact ⟨by simpa using hs, by simp [tag, hu], by simp [okT, hu], by simp, fun _ => hu⟩
  · simp at h

theorem run_part1 {u : TypeId} {b : Bool} (h : oneTy P u = some b) (xs : Array Value) (i : Nat) (x : Value) (hx : xs[i]? = some x) : (part u xs i).run P w = .ok x w := by
  obtain ⟨_, h2, h3, _⟩ := oneTy_sz h
  simp [part, run_agg w h3, h2, hx]

/-- The cells of a kind. -/
def isK : Bool → Value → Prop
  | false, v => ∃ n, v = .int .i64 n
  | true, v => ∃ b, v = .bool b
theorem eq_one {u : TypeId} {b : Bool} (h : oneTy P u = some b) (d : Nat) {x y : Value} {r : Bool} (e : flatEq [b] [x] [y] = some r) : (Op.equalIn (d + 1) u x y).run P w = .ok r w := by
  obtain ⟨_, _, _, h4, h5⟩ := oneTy_sz h
  cases b with
  | false =>
    cases x <;> cases y <;> try (simp [flatEq] at e; done)
    rename_i k n k' n'
    cases k <;> cases k' <;> try (simp [flatEq] at e; done)
    simp [flatEq] at e
    subst e
    exact run_equalIn_int w d u .i64 .i64 n n' (h4 rfl)
  | true =>
    cases x <;> cases y <;> simp [flatEq] at e
    subst e
    exact run_equalIn_bool w d u _ _ (h5 rfl)

theorem flatEq_cons {b : Bool} {bs : List Bool} {x y : Value} {xs ys : List Value} {r : Bool} (h : flatEq (b :: bs) (x :: xs) (y :: ys) = some r) :
    ∃ r1 r2, flatEq [b] [x] [y] = some r1 ∧ flatEq bs xs ys = some r2 ∧ r = (r1 && r2) := by
  cases b <;> cases x <;> cases y <;> try (simp [flatEq] at h; done)
  · rename_i k n k' n'
    cases k <;> cases k' <;> try (simp [flatEq] at h; done)
    simp only [flatEq] at h
    obtain ⟨a, h1, h2⟩ := Option.bind_eq_some_iff.1 h
    exact ⟨n == n', a, by simp [flatEq], h1, (Option.some.inj h2).symm⟩
  · rename_i p q
    simp only [flatEq] at h
    obtain ⟨a, h1, h2⟩ := Option.bind_eq_some_iff.1 h
    exact ⟨p == q, a, by simp [flatEq], h1, (Option.some.inj h2).symm⟩
theorem flatEq_shape {b : Bool} {bs : List Bool} {l m : List Value} {r : Bool} (h : flatEq (b :: bs) l m = some r) : ∃ x xs y ys, l = x :: xs ∧ m = y :: ys := by
  cases l <;> cases m <;> first | (cases b <;> simp [flatEq] at h; done) | exact ⟨_, _, _, _, rfl, rfl⟩

theorem eq_fields (d : Nat) (xs ys : Array Value) : ∀ (fs : List Field) (i : Nat) (bs : List Bool) (r : Bool), flatFields P fs i = some bs → flatEq bs (xs.toList.drop i) (ys.toList.drop i) = some r →
    (Op.eqFields (d + 1) xs ys fs).run P w = .ok r w
  | [], i, bs, r, hf, he => by
    simp [flatFields] at hf; subst hf
    have : r = true := by
      generalize xs.toList.drop i = l at he
      generalize ys.toList.drop i = m at he
      cases l <;> cases m <;> simp [flatEq] at he; exact he
    subst this
    simp [Op.eqFields]
  | f :: fs, i, bs, r, hf, he => by
    simp only [flatFields] at hf
    cases hc : f.offset == i && f.name != "_" with
    | false => simp [hc] at hf
    | true =>
      simp only [hc, cond_true] at hf
      obtain ⟨b, hb, hf⟩ := Option.bind_eq_some_iff.1 hf
      obtain ⟨l, hl, hf⟩ := Option.bind_eq_some_iff.1 hf
      simp at hf hc; subst hf
      obtain ⟨ho, hn⟩ := hc
      obtain ⟨x, xs', y, ys', ex, ey⟩ := flatEq_shape he
      rw [ex, ey] at he
      obtain ⟨r1, r2, h1, h2, rfl⟩ := flatEq_cons he
      have gx : xs[i]? = some x := by
        have := congrArg (·[0]?) ex; simpa using this
      have gy : ys[i]? = some y := by
        have := congrArg (·[0]?) ey; simpa using this
      have tx : xs.toList.drop (i + 1) = xs' := by rw [← List.tail_drop, ex]; rfl
      have ty : ys.toList.drop (i + 1) = ys' := by rw [← List.tail_drop, ey]; rfl
      rw [Op.eqFields, if_pos hn]
      simp only [Sem.run_bind, ho, run_part1 hb xs i x gx, run_part1 hb ys i y gy, Result.andThen_ok, eq_one hb d h1]
      cases r1
      · simp
      · simp only [Bool.not_true, Bool.false_eq_true, if_false, Bool.true_and]
        exact eq_fields d xs ys fs (i + 1) l r2 hl (by rw [tx, ty]; exact h2)

theorem eq_items (d : Nat) {e : TypeId} {b : Bool} (hb : oneTy P e = some b) (xs ys : Array Value) : ∀ (n i : Nat) (r : Bool), flatEq (List.replicate n b) (xs.toList.drop i) (ys.toList.drop i) = some r →
    (Op.eqItems (d + 1) e (P.cellsOf e) xs ys (List.range' i n)).run P w = .ok r w
  | 0, i, r, he => by
    have : r = true := by
      generalize xs.toList.drop i = l at he
      generalize ys.toList.drop i = m at he
      cases l <;> cases m <;> simp [flatEq] at he; exact he
    subst this
    simp [Op.eqItems]
  | n + 1, i, r, he => by
    rw [List.replicate_succ] at he
    obtain ⟨x, xs', y, ys', ex, ey⟩ := flatEq_shape he
    rw [ex, ey] at he
    obtain ⟨r1, r2, h1, h2, rfl⟩ := flatEq_cons he
    have gx : xs[i]? = some x := by
      have := congrArg (·[0]?) ex; simpa using this
    have gy : ys[i]? = some y := by
      have := congrArg (·[0]?) ey; simpa using this
    have tx : xs.toList.drop (i + 1) = xs' := by rw [← List.tail_drop, ex]; rfl
    have ty : ys.toList.drop (i + 1) = ys' := by rw [← List.tail_drop, ey]; rfl
    have hc : P.cellsOf e = 1 := (oneTy_sz hb).1
    rw [List.range'_succ]
    simp only [Op.eqItems, Sem.run_bind, hc, Nat.mul_one, run_part1 hb xs i x gx, run_part1 hb ys i y gy, Result.andThen_ok, eq_one hb d h1]
    cases r1
    · simp
    · simp only [Bool.not_true, Bool.false_eq_true, if_false, Bool.true_and]
      have := eq_items d hb xs ys n (i + 1) r2 (by rw [tx, ty]; exact h2)
      rw [hc] at this
      exact this

/-- Flat structs and arrays, compared. -/
theorem eq_flat (d : Nat) {t : TypeId} {bs : List Bool} (ht : flatTy P t = some bs) (xs ys : Array Value) {r : Bool} (he : flatEq bs xs.toList ys.toList = some r) :
    (Op.equalIn (d + 2) t (.agg xs) (.agg ys)).run P w = .ok r w := by
  unfold flatTy at ht
  split at ht
  · rename_i fields hu
    cases hc : P.stoodInHeld t || fields.size == 0 with
    | true => simp [hc] at ht
    | false =>
      simp only [hc, cond_false] at ht
      simp at hc
      have hf : P.fieldsOf t = fields := by simp [Program.fieldsOf, hu]
      rw [run_equalIn_struct w (d + 1) t xs ys (by rw [hf]; exact hu) hc.1, hf]
      exact eq_fields d xs ys fields.toList 0 bs r ht (by simpa using he)
  · rename_i n e hu
    cases hn : n == 0 with
    | true => simp [hn] at ht
    | false =>
      simp only [hn, cond_false] at ht
      obtain ⟨b, hb, ht⟩ := Option.bind_eq_some_iff.1 ht
      simp at ht; subst ht
      obtain ⟨i, hi⟩ := okT_info (oneTy_sz hb).2.2.1
      rw [run_equalIn_array w (d + 1) xs ys hu hi, List.range_eq_range']
      exact eq_items d hb xs ys n 0 r (by simpa using he)
  · simp at ht

theorem eqClass_bool {t : TypeId} (h : eqClass P t = .bool) : P.underlying t = some .bool := by
  unfold eqClass at h
  split at h <;> first | assumption | (simp at h; done) | (split at h <;> simp at h)
theorem eqClass_ptr {t : TypeId} (h : eqClass P t = .ptr) : ∃ e, P.underlying t = some (.pointer e) := by
  unfold eqClass at h
  split at h <;> first | exact ⟨_, by assumption⟩ | (simp at h; done) | (split at h <;> simp at h)
theorem eqClass_slice {t : TypeId} (h : eqClass P t = .slice) : ∃ e, P.underlying t = some (.slice e) := by
  unfold eqClass at h
  split at h <;> first | exact ⟨_, by assumption⟩ | (simp at h; done) | (split at h <;> simp at h)
theorem eqClass_flat {t : TypeId} {bs : List Bool} (h : eqClass P t = .flat bs) : flatTy P t = some bs := by
  unfold eqClass at h
  split at h <;> first | (simp at h; done) | (split at h <;> simp at h; subst h; assumption)

theorem guard_flat {t : TypeId} {bs : List Bool} (h : flatTy P t = some bs) : P.eqGuardType P.depth t = false := by
  have hd : ∃ n, P.depth = n + 2 := ⟨2 * (P.types.size + Made.depth), rfl⟩
  obtain ⟨n, hd⟩ := hd
  rw [hd]
  have one : ∀ {u : TypeId} {b : Bool} (m : Nat), oneTy P u = some b → P.eqGuardType (m + 1) u = false := by
    intro u b m hu
    obtain ⟨_, _, _, h4, h5⟩ := oneTy_sz hu
    cases b
    · simp [Program.eqGuardType, h4 rfl]
    · simp [Program.eqGuardType, h5 rfl]
  unfold flatTy at h
  split at h
  · rename_i fields hu
    cases hc : P.stoodInHeld t || fields.size == 0 with
    | true => simp [hc] at h
    | false =>
      simp only [hc, cond_false] at h
      have all : ∀ (fs : List Field) (i : Nat) (bs : List Bool), flatFields P fs i = some bs → ∀ f ∈ fs, ∃ b, oneTy P f.type = some b := by
        intro fs
        induction fs with
        | nil => simp
        | cons g fs ih =>
          intro i bs hf f hm
          simp only [flatFields] at hf
          cases hc : g.offset == i && g.name != "_" with
          | false => simp [hc] at hf
          | true =>
            simp only [hc, cond_true] at hf
            obtain ⟨b, hb, hf⟩ := Option.bind_eq_some_iff.1 hf
            obtain ⟨l, hl, hf⟩ := Option.bind_eq_some_iff.1 hf
            rcases List.mem_cons.1 hm with rfl | hm
            · exact ⟨b, hb⟩
            · exact ih _ _ hl f hm
      rw [Program.eqGuardType, hu]
      show (fields.any fun f => f.name != "_" && P.eqGuardType (n + 1) f.type) = false
      rw [← Array.any_toList]
      rw [List.any_eq_false]
      intro f hm
      obtain ⟨b, hb⟩ := all _ _ _ h f hm
      rw [one n hb]; simp
  · rename_i k e hu
    cases hn : k == 0 with
    | true => simp [hn] at h
    | false =>
      simp only [hn, cond_false] at h
      obtain ⟨b, hb, h⟩ := Option.bind_eq_some_iff.1 h
      rw [Program.eqGuardType, hu]
      exact one n hb
  · simp at h

/-- Two values, compared. -/
theorem ieq_sim {t : TypeId} {x x' y y' : Value} {r : Bool} (h : ieq (eqClass P t) x y = some r) (hx : VR ρ x x') (hy : VR ρ y y') :
    (Op.equal t x' y').run P w = .ok r w ∧ ∀ (op : BinOp) (a b : Operand), (eqGuard op t a b x' y').run P w = .ok () w := by
  cases hc : eqClass P t with
  | no => rw [hc] at h; cases x <;> cases y <;> simp [ieq] at h
  | bool =>
    rw [hc] at h
    cases hx <;> cases hy <;> simp [ieq] at h
    subst h
    exact ⟨run_equalIn_bool w 9999 t _ _ (eqClass_bool hc), fun op a b => by cases op <;> simp [eqGuard]⟩
  | ptr =>
    rw [hc] at h
    obtain ⟨e, hu⟩ := eqClass_ptr hc
    cases hx <;> cases hy <;> try (simp [ieq] at h; done)
    all_goals
      simp only [ieq, Option.some.injEq] at h
      subst h
      refine ⟨?_, fun op a b => by cases op <;> simp [eqGuard]⟩
      show (Op.equalIn (9999 + 1) t _ _).run P w = _
      generalize (9999 : Nat) = d
      simp only [Op.equalIn, Sem.run_bind, run_underlying hu, Result.andThen_ok]
      rfl
  | slice =>
    rw [hc] at h
    obtain ⟨e, hu⟩ := eqClass_slice hc
    cases hx <;> cases hy <;> try (simp [ieq] at h; done)
    all_goals
      simp only [ieq, Option.some.injEq] at h
      subst h
      refine ⟨?_, fun op a b => by cases op <;> simp [eqGuard]⟩
      show (Op.equalIn (9999 + 1) t _ _).run P w = _
      generalize (9999 : Nat) = d
      simp only [Op.equalIn, Sem.run_bind, run_underlying hu, Result.andThen_ok]
      rfl
  | flat bs =>
    rw [hc] at h
    have hf := eqClass_flat hc
    have cells : ∀ (bs : List Bool) (l m l' m' : List Value) (r : Bool), VRs ρ l l' → VRs ρ m m' → flatEq bs l m = some r → flatEq bs l' m' = some r := by
      intro bs
      induction bs with
      | nil => intro l m l' m' r a b e; cases a <;> cases b <;> simp [flatEq] at e ⊢; exact e
      | cons c bs ih =>
        intro l m l' m' r a b e
        obtain ⟨p, ps, q, qs, rfl, rfl⟩ := flatEq_shape e
        cases a with
        | cons a1 a2 =>
          cases b with
          | cons b1 b2 =>
            obtain ⟨r1, r2, h1, h2, rfl⟩ := flatEq_cons e
            have k2 := ih _ _ _ _ _ a2 b2 h2
            cases c <;> cases a1 <;> cases b1 <;> try (simp [flatEq] at h1; done)
            · rename_i k n k' n'
              cases k <;> cases k' <;> try (simp [flatEq] at h1; done)
              simp only [flatEq, k2]
              simp [flatEq] at h1
              simp [h1]
            · simp only [flatEq, k2]
              simp [flatEq] at h1
              simp [h1]
    cases x <;> cases y <;> simp [ieq] at h
    cases hx with
    | agg a1 _ =>
      cases hy with
      | agg b1 _ =>
        have := cells bs _ _ _ _ r a1 b1 (by simpa using h)
        exact ⟨eq_flat 9998 hf _ _ (by simpa using this), fun op a b => run_eqGuard_agg w op t a b _ _ (guard_flat hf)⟩
end Go.Ideal
/- The ideal machine, part K: more cores. -/
namespace Go.Ideal
variable {ρ : Ren} {H : IHeap} {w : World} {P : Program}

/-- A value that is a number, a bool or a text stands to itself alone. -/
theorem VR.int_inv {k : IntKind} {n : Int} {y : Value} (h : VR ρ (.int k n) y) : y = .int k n := by cases h; rfl
theorem VR.bool_inv {b : Bool} {y : Value} (h : VR ρ (.bool b) y) : y = .bool b := by cases h; rfl
theorem VR.string_inv {s : ByteArray} {y : Value} (h : VR ρ (.string s) y) : y = .string s := by cases h; rfl

/-- The four shapes that are compared. -/
inductive Shape4 : Value → Value → Prop
  | bool (a b : Bool) : Shape4 (.bool a) (.bool b)
  | ptr (a b : Option Addr) : Shape4 (.pointer a) (.pointer b)
  | slice (a b : Option Addr) (n c m d : Nat) : Shape4 (.slice a n c) (.slice b m d)
  | agg (a b : Array Value) : Shape4 (.agg a) (.agg b)
theorem ieq_shape {cl : EqC} {x y : Value} {r : Bool} (h : ieq cl x y = some r) : Shape4 x y := by
  unfold ieq at h
  split at h <;> first | constructor | (simp at h; done)
theorem Shape4.rel {x y x' y' : Value} (h : Shape4 x y) (hx : VR ρ x x') (hy : VR ρ y y') : Shape4 x' y' := by
  cases h <;> cases hx <;> cases hy <;> constructor
theorem Shape4.eql {x y : Value} (h : Shape4 x y) (t : TypeId) : Go.binOp .eql t x y = (do pure (.bool (← Op.equal t x y))) := by cases h <;> rfl
theorem Shape4.neq {x y : Value} (h : Shape4 x y) (t : TypeId) : Go.binOp .neq t x y = (do pure (.bool (!(← Op.equal t x y)))) := by cases h <;> rfl

theorem run_guard_int (op : BinOp) (t : TypeId) (a b : Operand) (k k' : IntKind) (m n : Int) : (eqGuard op t a b (.int k m) (.int k' n)).run P w = .ok () w := by
  cases op <;> simp [eqGuard]
theorem run_guard_str (op : BinOp) (t : TypeId) (a b : Operand) (m n : ByteArray) : (eqGuard op t a b (.string m) (.string n)).run P w = .ok () w := by
  cases op <;> simp [eqGuard]

theorem ieq_run {op : BinOp} {t : TypeId} {x x' y y' v : Value} (h : (match op with | .eql => (ieq (eqClass P t) x y).bind fun b => some (Value.bool b) | .neq => (ieq (eqClass P t) x y).bind fun b => some (Value.bool !b) | _ => none) = some v)
    (hx : VR ρ x x') (hy : VR ρ y y') (a b : Operand) : ((do eqGuard op t a b x' y'; Go.binOp op t x' y') : Sem Value).run P w = .ok v w ∧ VR ρ v v := by
  cases op <;> simp only at h <;> try (simp at h; done)
  all_goals
    obtain ⟨r, hr, h⟩ := Option.bind_eq_some_iff.1 h
    have h := Option.some.inj h
    subst h
    refine ⟨?_, .bool _⟩
    obtain ⟨h1, h2⟩ := ieq_sim (w := w) hr hx hy
    have h3 := (ieq_shape hr).rel hx hy
    rw [Sem.run_bind, h2 _ a b, Result.andThen_ok]
  · rw [h3.eql]; simp [h1]
  · rw [h3.neq]; simp [h1]

theorem ibin_sim {op : BinOp} {t : TypeId} {x x' y y' v : Value} (h : ibin op (eqClass P t) x y = some v) (hx : VR ρ x x') (hy : VR ρ y y') (a b : Operand) :
    ((do eqGuard op t a b x' y'; Go.binOp op t x' y') : Sem Value).run P w = .ok v w ∧ VR ρ v v := by
  unfold ibin at h
  split at h
  · rename_i k m k' n
    rw [hx.int_inv, hy.int_inv, Sem.run_bind, run_guard_int, Result.andThen_ok]
    split at h
    · exact ishift_sim (.inl rfl) h
    · exact ishift_sim (.inr rfl) h
    · split at h
      · rename_i e; subst e
        exact iint_sim h
      · simp at h
  · rw [hx.string_inv, hy.string_inv, Sem.run_bind, run_guard_str, Result.andThen_ok]
    split at h
    · simp at h; subst h
      exact ⟨by simp [Go.binOp, Op.stringOp], .bool _⟩
    · simp at h; subst h
      exact ⟨by simp [Go.binOp, Op.stringOp], .bool _⟩
    · simp at h
  · exact ieq_run h hx hy a b

theorem iun_sim {op : UnOp} {x x' v : Value} (h : iun op x = some v) (hx : VR ρ x x') : (Op.unary op x').run P w = .ok v w ∧ VR ρ v v := by
  unfold iun at h
  split at h
  · rw [hx.int_inv]
    simp [iint] at h; subst h
    exact ⟨by simp [Op.unary, Op.intArith], .int _ _⟩
  · rw [hx.int_inv]
    simp only [iint, Option.some.injEq] at h; subst h
    exact ⟨by simp [Op.unary, Op.intBits], .int _ _⟩
  · rw [hx.bool_inv]
    simp at h; subst h
    exact ⟨by simp [Op.unary], .bool _⟩
  · simp at h

theorem iconv_sim {s d : TypeId} {k : IntKind} (hd : P.underlying d = some (.int k)) (hs : (P.underlying s).isSome = true) {x x' v : Value} (h : iconv k x = some v) (hx : VR ρ x x') : (convert s d x').run P w = .ok v w ∧ VR ρ v v := by
  unfold iconv at h
  split at h
  · rw [hx.int_inv]
    simp at h; subst h
    obtain ⟨sd, hs⟩ := Option.isSome_iff_exists.1 hs
    refine ⟨?_, .int _ _⟩
    simp only [convert, Sem.run_bind, run_underlying hs, run_underlying hd, Result.andThen_ok]
    simp [Conv.intToInt]
  · simp at h

/-- A pointer or function that is no nil. -/
theorem inilc_sim {x x' v : Value} (h : inilc x = some v) (hx : VR ρ x x') (a : Act) (o : Oper) (e : Operand) (ho : o.op = .nilCheck e) (he : a.eval e = x') :
    (execOp a.eval o).run P w = .ok (.value x') w ∧ VR ρ v x' := by
  unfold inilc at h
  split at h
  · simp at h; subst h
    refine ⟨?_, hx⟩
    cases hx with
    | ptr _ _ => simp [execOp, ho, he]
  · simp at h; subst h
    refine ⟨?_, hx⟩
    cases hx with
    | func _ _ => simp [execOp, ho, he]
  · simp at h

theorem iidxA_sim {len size : Nat} {i i' : Value} {o : Nat} (h : iidxA len size i = some o) (hi : VR ρ i i') : ∃ k n, i' = .int k n ∧ 0 ≤ n ∧ n < (len : Int) ∧ o = n.toNat * size := by
  unfold iidxA at h
  split at h
  · split at h
    · rename_i hb
      simp at h
      exact ⟨_, _, hi.int_inv, hb.1, hb.2, h.symm⟩
    · simp at h
  · simp at h

theorem VR.slc_inv {s b o n c : Nat} {y : Value} (h : VR ρ (Ideal.slc s b o n c) y) :
    (∃ r δ z c', ρ b = some (r, δ, z) ∧ y = .slice (some ⟨r, o + δ, none⟩) n c' ∧ n + 1 ≤ c ∧ c ≤ c' + 1 ∧ o + δ + c' * s ≤ z) ∨ (∃ a, y = .slice (some a) 0 0 ∧ n = 0 ∧ c ≤ 1) := by
  cases h with
  | slc _ _ e h1 h2 h3 => exact .inl ⟨_, _, _, _, e, rfl, h1, h2, h3⟩
  | slcz a h1 => exact .inr ⟨_, rfl, rfl, h1⟩

theorem iidx_sim {t e : TypeId} (ht : P.underlying t = some (.slice e)) (he : okT P e = true) {x x' i i' v : Value} (h : iidx (tsz P e) x i = some v) (hx : VR ρ x x') (hi : VR ρ i i') :
    ∃ v', (Instr.indexAt t x' i').run P w = .ok v' w ∧ VR ρ v v' := by
  unfold iidx at h
  split at h
  · rename_i b o sp len c k n
    split at h
    · rename_i hb
      simp at h; subst h
      rw [hi.int_inv]
      rcases hx.slc_inv with ⟨r, δ, z, c', e1, rfl, _, _⟩ | ⟨a, rfl, e1, _⟩
      · refine ⟨Ideal.ptr r (o + n.toNat * tsz P e + δ), ?_, .ptr _ e1⟩
        simp only [Instr.indexAt, asIntOf, Sem.run_bind, Sem.run_pure, Result.andThen_ok, run_underlying ht, run_size w he, Sem.run_ite, hb, and_self, if_true, add_plain]
        simp; omega
      · omega
    · simp at h
  · simp at h
end Go.Ideal
/- The ideal machine, part L: more cores. -/
namespace Go.Ideal
variable {ρ : Ren} {H : IHeap} {w : World} {P : Program}

theorem paddr_sim {n : Nat} {x x' v : Value} (h : paddr n x = some v) (hx : VR ρ x x') : ∃ a, x' = .pointer (some a) ∧ VR ρ v (.pointer (some (a.add n))) := by
  obtain ⟨b, o, rfl, h⟩ := ptr_of h
  have h := Option.some.inj h
  subst h
  obtain ⟨r, δ, z, e, rfl⟩ := hx.ptr_inv
  refine ⟨_, rfl, ?_⟩
  rw [add_plain, show o + δ + n = o + n + δ by omega]
  exact .ptr _ e

theorem run_fieldAt {s : TypeId} {fields : Array Field} (hs : P.underlying s = some (.struct fields)) {f : Nat} {g : Field} (hf : fields[f]? = some g) (hz : (tsz P g.type == 0) = false) (a : Addr) :
    (Instr.fieldAt s (.pointer (some a)) f).run P w = .ok (.pointer (some (a.add g.offset))) w := by
  have hz' : tsz P g.type ≠ 0 := by simpa using hz
  have hi : ∃ i, P.info? g.type = some i := by
    unfold tsz at hz'
    cases e : P.info? g.type with
    | none => simp [e] at hz'
    | some i => exact ⟨i, rfl⟩
  obtain ⟨i, hi⟩ := hi
  have hc : P.cellsOf g.type ≠ 0 := hz'
  simp only [Instr.fieldAt, Sem.run_bind, run_underlying hs, Result.andThen_ok, hf, Instr.sureAddr, Sem.run_pure, fieldPlace, run_sizeOf w hi, Sem.run_ite, if_neg hc]

theorem run_indexAt_array {t e : TypeId} {len : Nat} (ht : P.underlying t = some (.array len e)) (he : okT P e = true) (k : IntKind) {n : Int} (h0 : 0 ≤ n) (h1 : n < (len : Int)) (a : Addr) :
    (Instr.indexAt t (.pointer (some a)) (.int k n)).run P w = .ok (.pointer (some (a.add (n.toNat * tsz P e)))) w := by
  simp only [Instr.indexAt, asIntOf, Sem.run_bind, Sem.run_pure, Result.andThen_ok, run_underlying ht, Instr.sureAddr, run_size w he, Sem.run_ite, h0, h1, and_self, if_true]

theorem part_sim {t : TypeId} (ht : okT P t = true) {a b : List Value} {off : Nat} {v : Value} (h : iload (tag P t) (tsz P t) a off = some v) (h1 : VRs ρ a b) (h2 : ∀ x ∈ a, x.oneCell = true) :
    ∃ v', (part t ⟨b⟩ off).run P w = .ok v' w ∧ VR ρ v v' := by
  unfold iload at h
  simp only [part, Sem.run_bind, run_agg w ht, Result.andThen_ok, Sem.run_ite]
  cases hc : tag P t with
  | true =>
    simp only [hc, cond_true] at h
    split at h
    · have h := Option.some.inj h
      subst h
      have : (Array.extract (⟨b⟩ : Array Value) off (off + tsz P t)) = ⟨(b.drop off).take (tsz P t)⟩ := by
        apply Array.ext'
        rw [Array.toList_extract]; simp [List.extract]
      refine ⟨.agg ⟨(b.drop off).take (tsz P t)⟩, ?_, .agg ((h1.drop _).take _) fun y hy => h2 y (List.mem_of_mem_drop (List.mem_of_mem_take hy))⟩
      simp only [if_true, run_size w ht, Result.andThen_ok, Sem.run_bind, Sem.run_pure, this]
    · simp at h
  | false =>
    simp only [hc, cond_false] at h
    obtain ⟨v', e, k⟩ := h1.get h
    refine ⟨v', ?_, k⟩
    have : (⟨b⟩ : Array Value)[off]? = some v' := by simpa using e
    simp [this]

theorem ifield_sim {t : TypeId} {fields : Array Field} (ht : P.underlying t = some (.struct fields)) {f : Nat} {g : Field} (hf : fields[f]? = some g) (hg : okT P g.type = true) {x x' v : Value}
    (h : ifield (tag P g.type) (tsz P g.type) g.offset x = some v) (hx : VR ρ x x') : ∃ v', (Instr.field t x' f).run P w = .ok v' w ∧ VR ρ v v' := by
  unfold ifield at h
  split at h
  · cases hx with
    | agg h1 h2 =>
      obtain ⟨v', e, k⟩ := part_sim (w := w) hg h h1 h2
      refine ⟨v', ?_, k⟩
      simp only [Instr.field, Sem.run_bind, run_underlying ht, Result.andThen_ok, hf, asAgg, Sem.run_pure, e]
  · simp at h

theorem iindexA_sim {t e : TypeId} {len : Nat} (ht : P.underlying t = some (.array len e)) (he : okT P e = true) {x x' i i' v : Value}
    (h : iindexA len (tag P e) (tsz P e) x i = some v) (hx : VR ρ x x') (hi : VR ρ i i') : ∃ v', (Instr.index t x' i').run P w = .ok v' w ∧ VR ρ v v' := by
  unfold iindexA at h
  split at h
  · obtain ⟨o, ho, h⟩ := Option.bind_eq_some_iff.1 h
    obtain ⟨k, n, rfl, h0, h1, rfl⟩ := iidxA_sim ho hi
    cases hx with
    | agg k1 k2 =>
      obtain ⟨v', e2, k3⟩ := part_sim (w := w) he h k1 k2
      refine ⟨v', ?_, k3⟩
      simp only [Instr.index, Sem.run_bind, asIntOf, Sem.run_pure, run_underlying ht, Result.andThen_ok, Sem.run_ite, h0, h1, and_self, if_true, run_size w he, e2]
  · simp at h

theorem iindexS_sim {t : TypeId} (ht : P.underlying t = some .string) {x x' i i' v : Value} (h : iindexS x i = some v) (hx : VR ρ x x') (hi : VR ρ i i') : (Instr.index t x' i').run P w = .ok v w ∧ VR ρ v v := by
  unfold iindexS at h
  split at h
  · rename_i s k n
    split at h
    · rename_i h0
      obtain ⟨b, hb, h⟩ := Option.bind_eq_some_iff.1 h
      have h := Option.some.inj h
      subst h
      rw [hx.string_inv, hi.int_inv]
      refine ⟨?_, .int _ _⟩
      simp only [Instr.index, Sem.run_bind, asIntOf, Sem.run_pure, run_underlying ht, Result.andThen_ok]
      simp [h0, hb]
    · simp at h
  · simp at h

theorem iextract_sim {i : Nat} {x x' v : Value} (h : iextract i x = some v) (hx : VR ρ x x') : ∃ v', (Instr.extract x' i).run P w = .ok v' w ∧ VR ρ v v' := by
  unfold iextract at h
  split at h
  · cases hx with
    | tuple k =>
      rename_i a b
      obtain ⟨v', e, q⟩ := k.get h
      refine ⟨v', ?_, q⟩
      have : (⟨b⟩ : Array Value)[i]? = some v' := by simpa using e
      simp [Instr.extract, this]
  · simp at h

theorem ibound_sim {y y' : Nat} {x x' : Value} {n : Nat} (h : ibound y x = some n) (hx : VR ρ x x') (hy : y ≤ y') (c : BoundsCode) : (Instr.sliceBound x' y' c).run P w = .ok n w ∧ n ≤ y := by
  unfold ibound at h
  split at h
  · split at h
    · rename_i hb
      have h := Option.some.inj h
      subst h
      rw [hx.int_inv]
      refine ⟨?_, by omega⟩
      simp only [Instr.sliceBound, asIntOf, Sem.run_bind, Sem.run_pure, Result.andThen_ok, Sem.run_ite]
      rw [if_pos (by omega)]
    · simp at h
  · simp at h

/-- an operand that may be left out -/
def VRo (ρ : Ren) : Option Value → Option Value → Prop
  | some a, some b => VR ρ a b
  | none, none => True
  | _, _ => False

theorem ibounds_sim {len c cap l h' c' : Nat} {lo lo' hi hi' mx mx' : Option Value} (h : ibounds len c lo hi mx = some (l, h', c')) (hc : c ≤ cap + 1) (hlen : len + 1 ≤ c ∨ (len = 0 ∧ cap = 0))
    (h1 : VRo ρ lo lo') (h2 : VRo ρ hi hi') (h3 : VRo ρ mx mx') :
    ∃ m, (Instr.sliceBounds true len cap lo' hi' mx').run P w = .ok (l, h', m) w ∧ m ≤ cap ∧ l ≤ h' ∧ h' ≤ m ∧ ((h' - l) + 1 ≤ c' ∧ c' ≤ m - l + 1 ∨ (h' - l = 0 ∧ m - l = 0 ∧ c' ≤ 1)) := by
  have loR : ∀ {y : Nat} {l : Nat} (q : ilo y lo = some l) (c : BoundsCode), (match lo' with | some v => Instr.sliceBound v y c | none => pure 0 : Sem Nat).run P w = .ok l w ∧ l ≤ y := by
    intro y l q c
    cases lo with
    | none => cases lo' with
      | none => simp [ilo] at q; subst q; exact ⟨rfl, Nat.zero_le _⟩
      | some v => exact h1.elim
    | some a => cases lo' with
      | none => exact h1.elim
      | some v => exact ibound_sim q h1 (Nat.le_refl _) c
  unfold ibounds at h
  cases mx with
  | some m =>
    cases mx' with
    | none => exact h3.elim
    | some m' =>
      simp only at h
      obtain ⟨k, hk, h⟩ := Option.bind_eq_some_iff.1 h
      cases hi with
      | none => simp at h
      | some a =>
        cases hi' with
        | none => exact h2.elim
        | some a' =>
          simp only at h
          obtain ⟨q, hq, h⟩ := Option.bind_eq_some_iff.1 h
          obtain ⟨l2, hl, h⟩ := Option.bind_eq_some_iff.1 h
          simp at h
          obtain ⟨rfl, rfl, rfl⟩ := h
          obtain ⟨e1, b1⟩ := ibound_sim (P := P) (w := w) hk h3 (y' := cap) (by omega) (if true then BoundsCode.slice3Acap else .slice3Alen)
          obtain ⟨e2, b2⟩ := ibound_sim (P := P) (w := w) hq h2 (Nat.le_refl k) .slice3B
          obtain ⟨e3, b3⟩ := loR hl .slice3C
          refine ⟨k, ?_, by omega, b3, b2, ?_⟩
          · simp only [Instr.sliceBounds, Sem.run_bind, if_true, e1, Result.andThen_ok, e2, Option.isSome_some]
            simp only [if_true] at e1
            rw [e1]
            simp only [Result.andThen_ok, e2]
            cases lo' <;> simp_all
          · cases hkl : k == l2 with
            | true => right; simp at hkl; simp; omega
            | false => left; simp at hkl; simp; omega
  | none =>
    cases mx' with
    | some _ => exact h3.elim
    | none =>
      simp only at h
      obtain ⟨q, hq, h⟩ := Option.bind_eq_some_iff.1 h
      obtain ⟨l2, hl, h⟩ := Option.bind_eq_some_iff.1 h
      simp at h
      obtain ⟨rfl, rfl, rfl⟩ := h
      obtain ⟨e3, b3⟩ := loR hl .sliceB
      have hiR : (match hi' with | some v => Instr.sliceBound v cap .sliceAcap | none => pure len : Sem Nat).run P w = .ok q w ∧ q ≤ cap ∧ (q + 1 ≤ c ∨ q = 0 ∧ cap = 0) := by
        cases hi with
        | none => cases hi' with
          | none => simp at hq; subst hq; exact ⟨rfl, by omega, by omega⟩
          | some v => exact h2.elim
        | some a => cases hi' with
          | none => exact h2.elim
          | some v =>
            obtain ⟨e, b⟩ := ibound_sim (P := P) (w := w) hq h2 (y' := cap) (by omega) .sliceAcap
            exact ⟨e, by omega, by omega⟩
      refine ⟨cap, ?_, Nat.le_refl _, b3, hiR.2.1, by omega⟩
      have e4 := hiR.1
      simp only [Instr.sliceBounds, Sem.run_bind, Sem.run_pure, Result.andThen_ok]
      cases hi' <;> cases lo' <;> simp_all
end Go.Ideal
/- The ideal machine, part M: lists. -/
namespace Go.Ideal
variable {ρ : Ren} {H : IHeap} {w : World} {P : Program}

theorem isliceS_sim {t e : TypeId} (ht : P.underlying t = some (.slice e)) (he : okT P e = true) {x x' v : Value} {lo lo' hi hi' mx mx' : Option Value} (h : isliceS (tsz P e) x lo hi mx = some v) (hx : VR ρ x x')
    (h1 : VRo ρ lo lo') (h2 : VRo ρ hi hi') (h3 : VRo ρ mx mx') : ∃ v', (Instr.sliceAt t x' lo' hi' mx').run P w = .ok v' w ∧ VR ρ v v' := by
  unfold isliceS at h
  split at h
  · rename_i a len c
    obtain ⟨⟨l, h', c'⟩, hb, h0⟩ := Option.bind_eq_some_iff.1 h
    clear h
    simp only at h0
    have run : ∀ (a' : Option Addr) (cap m : Nat), (Instr.sliceBounds true len cap lo' hi' mx').run P w = .ok (l, h', m) w →
        (Instr.sliceAt t (.slice a' len cap) lo' hi' mx').run P w = .ok (.slice (if m = l then a' else a'.map (·.add (l * tsz P e))) (h' - l) (m - l)) w := by
      intro a' cap m q
      simp only [Instr.sliceAt, Sem.run_bind, run_underlying ht, Result.andThen_ok, Instr.slice, q, run_size w he, Sem.run_pure]
    cases hx with
    | nilslc =>
      have h0 := Option.some.inj h0
      subst h0
      obtain ⟨m, e1, hm, b1, b2, b3⟩ := ibounds_sim (P := P) (w := w) hb (cap := 0) (by omega) (.inr ⟨rfl, rfl⟩) h1 h2 h3
      refine ⟨_, run none 0 m e1, ?_⟩
      have e3 : m = 0 := by omega
      have e0 : h' = 0 := by omega
      have e2 : l = 0 := by omega
      subst e0; subst e2; subst e3
      simp
      exact .nilslc
    | slc sp o e0 k1 k2 k3 =>
      rename_i b r δ z cap
      simp only at h0
      cases hsp : sp == tsz P e with
      | false => simp [hsp] at h0
      | true =>
      have hsp : sp = tsz P e := by simpa using hsp
      subst hsp
      simp only [beq_self_eq_true, cond_true] at h0
      have h0 := Option.some.inj h0
      subst h0
      obtain ⟨m, e1, hm, b1, b2, b3⟩ := ibounds_sim (P := P) (w := w) hb (cap := cap) k2 (.inl k1) h1 h2 h3
      refine ⟨_, run _ _ m e1, ?_⟩
      by_cases hml : m = l
      · rw [if_pos hml]
        have : h' - l = 0 := by omega
        rw [this, show m - l = 0 by omega]
        exact .slcz _ (by omega)
      · rw [if_neg hml]
        simp only [Option.map_some, add_plain]
        rw [show o + δ + l * tsz P e = o + l * tsz P e + δ by omega]
        have hmc : m * tsz P e ≤ cap * tsz P e := Nat.mul_le_mul_right _ hm
        have hsplit : (m - l) * tsz P e + l * tsz P e = m * tsz P e := by rw [← Nat.add_mul]; congr 1; omega
        refine .slc _ _ e0 ?_ ?_ ?_ <;> omega
    | slcz a k1 =>
      simp only at h0
      rename_i sp b o
      cases hsp : sp == tsz P e with
      | false => simp [hsp] at h0
      | true =>
      simp only [hsp, cond_true] at h0
      have h0 := Option.some.inj h0
      subst h0
      obtain ⟨m, e1, hm, b1, b2, b3⟩ := ibounds_sim (P := P) (w := w) hb (cap := 0) (by omega) (.inr ⟨rfl, rfl⟩) h1 h2 h3
      refine ⟨_, run _ _ m e1, ?_⟩
      have e3 : m = 0 := by omega
      have e0 : h' = 0 := by omega
      have e2 : l = 0 := by omega
      subst e0; subst e2; subst e3
      simp
      exact .slcz _ (by omega)
  · simp at h

theorem isliceT_sim {t : TypeId} (ht : P.underlying t = some .string) {x x' v : Value} {lo lo' hi hi' : Option Value} (h : isliceT x lo hi = some v) (hx : VR ρ x x')
    (h1 : VRo ρ lo lo') (h2 : VRo ρ hi hi') : (Instr.sliceAt t x' lo' hi' none).run P w = .ok v w ∧ VR ρ v v := by
  unfold isliceT at h
  split at h
  · rename_i s
    obtain ⟨q, hq, h⟩ := Option.bind_eq_some_iff.1 h
    obtain ⟨l, hl, h⟩ := Option.bind_eq_some_iff.1 h
    have h := Option.some.inj h
    subst h
    rw [hx.string_inv]
    refine ⟨?_, .string _⟩
    have hiR : (match hi' with | some v => Instr.sliceBound v s.size .sliceAlen | none => pure s.size : Sem Nat).run P w = .ok q w := by
      cases hi with
      | none => cases hi' with
        | none => simp at hq; subst hq; rfl
        | some v => exact h2.elim
      | some a => cases hi' with
        | none => exact h2.elim
        | some v => exact (ibound_sim hq h2 (Nat.le_refl _) _).1
    have loR : (match lo' with | some v => Instr.sliceBound v q .sliceB | none => pure 0 : Sem Nat).run P w = .ok l w := by
      cases lo with
      | none => cases lo' with
        | none => simp [ilo] at hl; subst hl; rfl
        | some v => exact h1.elim
      | some a => cases lo' with
        | none => exact h1.elim
        | some v => exact (ibound_sim hl h1 (Nat.le_refl _) _).1
    simp only [Instr.sliceAt, Sem.run_bind, run_underlying ht, Result.andThen_ok, Instr.slice, Option.isSome_none, Bool.false_eq_true, if_false, Sem.run_pure, Instr.sliceBounds]
    cases hi' <;> cases lo' <;> simp_all
  · simp at h

theorem ilenS_sim {t e : TypeId} (ht : P.underlying t = some (.slice e)) {x x' v : Value} (h : ilenS x = some v) (hx : VR ρ x x') (ty : TypeId) (ts : Array TypeId) (hts : ts.toList = [t]) :
    (Builtin.len_ ts ty #[x']).run P w = .ok v w ∧ VR ρ v v := by
  obtain ⟨l⟩ := ts; simp at hts; subst hts
  unfold ilenS at h
  split at h
  · have h := Option.some.inj h
    subst h
    refine ⟨?_, .int _ _⟩
    cases hx <;> simp [Builtin.len_, run_underlying ht]
  · simp at h
theorem ilenT_sim {t : TypeId} (ht : P.underlying t = some .string) {x x' v : Value} (h : ilenT x = some v) (hx : VR ρ x x') (ty : TypeId) (ts : Array TypeId) (hts : ts.toList = [t]) :
    (Builtin.len_ ts ty #[x']).run P w = .ok v w ∧ VR ρ v v := by
  obtain ⟨l⟩ := ts; simp at hts; subst hts
  unfold ilenT at h
  split at h
  · have h := Option.some.inj h
    subst h
    refine ⟨?_, .int _ _⟩
    cases hx; simp [Builtin.len_, run_underlying ht]
  · simp at h
theorem ER.length {ag : Nat} {es : List Ent} {fs : List MapEntry} (h : ER ρ ag es fs) : es.length = fs.length := by
  induction h with
  | nil => rfl
  | cons _ _ _ ih => simp [ih]
theorem ilenM_sim {t k e : TypeId} (ht : P.underlying t = some (.map k e)) (hR : RelR ρ H w) {x x' v : Value} (h : ilenM H x = some v) (hx : VR ρ x x') (ty : TypeId) (ts : Array TypeId) (hts : ts.toList = [t]) :
    (Builtin.len_ ts ty #[x']).run P w = .ok v w ∧ VR ρ v v := by
  obtain ⟨l⟩ := ts; simp at hts; subst hts
  unfold ilenM at h
  split at h
  · have h := Option.some.inj h
    subst h
    refine ⟨?_, .int _ _⟩
    cases hx; simp [Builtin.len_, run_underlying ht]
  · rename_i b
    cases hx with
    | map e1 =>
      obtain ⟨o, ho, h⟩ := Option.bind_eq_some_iff.1 h
      split at h
      · have h := Option.some.inj h
        subst h
        obtain ⟨fs, hw, k⟩ := hR.map e1 ho
        refine ⟨?_, .int _ _⟩
        have := k.length
        simp [Builtin.len_, run_underlying ht, getObj, Sem.run, hw, this]
      · simp at h
  · simp at h

theorem imm_min (k k' : IntKind) (a b : Int) : (Builtin.min2 (.int k a) (.int k' b)).run P w = .ok (.int k (imm true a b)) w := by simp [Builtin.min2, imm]
theorem imm_max (k k' : IntKind) (a b : Int) : (Builtin.max2 (.int k a) (.int k' b)).run P w = .ok (.int k (imm false a b)) w := by simp [Builtin.max2, imm]
theorem ifold2_sim (mn : Bool) : ∀ (l l' : List Value) (x v : Value), ifold2 mn x l = some v → (∃ k n, x = .int k n) → VRs ρ l l' →
    (l'.foldlM (if mn then Builtin.min2 else Builtin.max2) x : Sem Value).run P w = .ok v w ∧ VR ρ v v := by
  intro l
  induction l with
  | nil =>
    intro l' x v h ⟨k, n, hx⟩ hl
    cases hl; subst hx
    simp [ifold2] at h; subst h
    exact ⟨by simp, .int _ _⟩
  | cons a l ih =>
    intro l' x v h ⟨k, n, hx⟩ hl
    cases hl with
    | cons ha hl =>
      subst hx
      unfold ifold2 at h
      split at h
      · rename_i heq; simp at heq
      · rename_i k1 a1 k2 b2 r e1 e2
        simp at e1 e2
        obtain ⟨rfl, rfl⟩ := e1; obtain ⟨rfl, rfl⟩ := e2
        split at h
        · rename_i hk; subst hk
          rw [ha.int_inv]
          obtain ⟨q1, q2⟩ := ih _ _ _ h ⟨_, _, rfl⟩ hl
          refine ⟨?_, q2⟩
          rw [List.foldlM_cons, Sem.run_bind]
          cases mn
          · simp only [Bool.false_eq_true, if_false] at q1 ⊢
            rw [imm_max]; exact q1
          · simp only [if_true] at q1 ⊢
            rw [imm_min]; exact q1
        · simp at h
      · simp at h
theorem iminmax_sim (mn : Bool) {l l' : List Value} {v : Value} (h : iminmax mn l = some v) (hl : VRs ρ l l') (ts : Array TypeId) (ty : TypeId) :
    (if mn then Builtin.min_ ts ty ⟨l'⟩ else Builtin.max_ ts ty ⟨l'⟩ : Sem Value).run P w = .ok v w ∧ VR ρ v v := by
  unfold iminmax at h
  split at h
  · cases hl with
    | cons a b =>
      rw [a.int_inv]
      obtain ⟨q1, q2⟩ := ifold2_sim (P := P) (w := w) mn _ _ _ _ h ⟨_, _, rfl⟩ b
      refine ⟨?_, q2⟩
      cases mn
      · simpa [Builtin.max_] using q1
      · simpa [Builtin.min_] using q1
  · simp at h
end Go.Ideal
/- The ideal machine, part N: lists that are made, grown and copied. -/
namespace Go.Ideal
variable {ρ : Ren} {H : IHeap} {w : World} {P : Program}

/-- A list that is read, its cells. -/
theorem hrow_sim (hR : RelR ρ H w) {size : Nat} {x x' : Value} {m : Nat} {new : List Value} (h : hrow size H x = some (m, new)) (hx : VR ρ x x') :
    ∃ a c new', x' = .slice a m c ∧ new.length = m * size ∧ VRs ρ new new' ∧ (∀ v ∈ new, v.oneCell = true) ∧ (∀ k w', w'.heap = w.heap → k ≤ m → (Builtin.firstCells size k x').run P w' = .ok (new'.take (k * size)).toArray w') := by
  unfold hrow at h
  split at h
  · simp at h; obtain ⟨rfl, rfl⟩ := h
    cases hx with
    | nilslc => exact ⟨none, 0, [], rfl, by simp, .nil, by simp, fun k w' hw' hk => by simp [Builtin.firstCells]⟩
  · rename_i b o sp n c
    cases hn : n == 0 with
    | true =>
      simp only [hn, cond_true] at h
      have hn : n = 0 := by simpa using hn
      simp at h; obtain ⟨rfl, rfl⟩ := h
      subst hn
      rcases hx.slc_inv with ⟨r, δ, z, c', e1, rfl, _⟩ | ⟨a, rfl, _, _⟩
      · refine ⟨_, _, [], rfl, by simp, .nil, by simp, fun k w' hw' hk => ?_⟩
        obtain rfl : k = 0 := by omega
        simp [Builtin.firstCells, loadCells, loadCellsFrom]
      · refine ⟨_, _, [], rfl, by simp, .nil, by simp, fun k w' hw' hk => ?_⟩
        obtain rfl : k = 0 := by omega
        simp [Builtin.firstCells, loadCells, loadCellsFrom]
    | false =>
      simp only [hn, cond_false] at h
      have hn : n ≠ 0 := by simpa using hn
      obtain ⟨⟨cs, fl⟩, hc, h⟩ := Option.bind_eq_some_iff.1 h
      simp only at h
      split at h
      · rename_i hb
        simp at h; obtain ⟨rfl, rfl⟩ := h
        rcases hx.slc_inv with ⟨r, δ, z, c', e1, rfl, _⟩ | ⟨a, rfl, e2, _⟩
        · obtain ⟨arr, t, fr, hw, hz, hs⟩ := hR.row e1 (hcells_eq hc)
          obtain ⟨hv, hbd⟩ := hs.piece o (n * size) hb
          refine ⟨_, _, _, rfl, by simp; omega, hv, fun v hv => hs.2 v (List.mem_of_mem_drop (List.mem_of_mem_take hv)), fun k w' hw' hk => ?_⟩
          have hks : k * size ≤ n * size := Nat.mul_le_mul_right _ hk
          simp only [Builtin.firstCells]
          rw [run_cells P w' r (o + δ) (k * size) arr t fr (by rw [hw']; exact hw) (by omega), List.take_take, Nat.min_eq_left hks]
        · omega
      · simp at h
  · simp at h

/-- The cells of a local row. -/
theorem lrow_sim {cs : List Value} {r : Nat} (hL : LocR ρ cs w r) {size n c m : Nat} {new : List Value} (h : lrow size n cs = some (m, new)) :
    ∃ new', m = n ∧ new.length = m * size ∧ VRs ρ new new' ∧ (∀ v ∈ new, v.oneCell = true) ∧ (∀ k w', w'.heap = w.heap → k ≤ m → (Builtin.firstCells size k (.slice (some ⟨r, 0, none⟩) n c)).run P w' = .ok (new'.take (k * size)).toArray w') := by
  obtain ⟨arr, t, hw, hv, h1⟩ := hL
  unfold lrow at h
  split at h
  · rename_i hb
    simp at h; obtain ⟨rfl, rfl⟩ := h
    have hl := hv.length
    refine ⟨_, rfl, by simp; omega, hv.take (n * size), fun v hv => h1 v (List.mem_of_mem_take hv), fun k w' hw' hk => ?_⟩
    have hks : k * size ≤ n * size := Nat.mul_le_mul_right _ hk
    simp only [Builtin.firstCells]
    rw [run_cells P w' r 0 (k * size) arr t (0, 0) (by rw [hw']; exact hw) (by right; simp at hl; omega), List.take_take, Nat.min_eq_left hks]
    simp
  · simp at h

theorem zcells_sim {e : TypeId} {zs : List Value} (h : zcells P e = some zs) :
    ∃ z, tzero P e = some z ∧ z.cells.toList = zs ∧ (∀ v ∈ zs, v.oneCell = true) ∧ zs.length = tsz P e ∧ okT P e = true ∧ (∀ ρ : Ren, VRs ρ zs zs) ∧ ∀ ρ : Ren, VR ρ z z := by
  unfold zcells at h
  obtain ⟨z, hz, h⟩ := Option.bind_eq_some_iff.1 h
  obtain ⟨cs, hc, h⟩ := Option.bind_eq_some_iff.1 h
  cases hk : cs.all (fun v => cst v && v.oneCell) && cs.length == tsz P e && okT P e with
  | false => simp [hk] at h
  | true =>
    simp [hk] at h; subst h
    simp at hk
    obtain ⟨⟨k1, k2⟩, k3⟩ := hk
    have refl : ∀ ρ : Ren, VRs ρ cs cs := by
      intro ρ
      have : ∀ l : List Value, (∀ v ∈ l, cst v = true) → VRs ρ l l := by
        intro l
        induction l with
        | nil => intro _; exact .nil
        | cons a l ih => intro k; exact .cons (VR.cst (k a (by simp))) (ih fun v hv => k v (by simp [hv]))
      exact this cs fun v hv => (k1 v hv).1
    have hone : ∀ v ∈ cs, v.oneCell = true := fun v hv => (k1 v hv).2
    unfold cellsOf at hc
    cases ht : tag P e with
    | true =>
      simp only [ht, cond_true, asAggN] at hc
      split at hc
      · rename_i a
        split at hc
        · simp at hc; subst hc
          obtain ⟨l⟩ := a
          exact ⟨_, hz, rfl, hone, k2, k3, refl, fun ρ => .agg (refl ρ) hone⟩
        · simp at hc
      · simp at hc
    | false =>
      simp only [ht, cond_false] at hc
      obtain ⟨c, hc', hc⟩ := Option.bind_eq_some_iff.1 hc
      simp at hc; subst hc
      have hcz := (asCell_eq hc').1
      subst hcz
      refine ⟨_, hz, by rw [asCell_cells hc'], hone, k2, k3, refl, fun ρ => ?_⟩
      cases refl ρ with
      | cons a _ => exact a

theorem flatten_rep (n : Nat) (l : List Value) : (List.replicate n l).flatten.length = n * l.length := by
  induction n with
  | zero => simp
  | succ n ih => simp [List.replicate_succ, ih, Nat.succ_mul]; omega
/-- 'zero[i % size]' for all i below n times size. -/
theorem rep_range (z : Array Value) (n : Nat) : ((Array.range (n * z.size)).map fun i => z[i % z.size]!).toList = (List.replicate n z.toList).flatten := by
  apply List.ext_getElem?
  intro i
  have e : ((Array.range (n * z.size)).map fun i => z[i % z.size]!).toList[i]? = if i < n * z.size then some (z[i % z.size]!) else none := by
    rw [Array.getElem?_toList, Array.getElem?_map, Array.getElem?_range]
    split <;> simp
  rw [e]
  clear e
  induction n generalizing i with
  | zero => simp
  | succ n ih =>
    rw [List.replicate_succ, List.flatten_cons]
    by_cases h : i < z.size
    · rw [List.getElem?_append_left (by simpa using h), if_pos (by rw [Nat.succ_mul]; omega), Nat.mod_eq_of_lt h]
      simp [h]
    · rw [List.getElem?_append_right (by simp; omega)]
      have := ih (i - z.size)
      simp only [Array.length_toList] at this ⊢
      rw [← this, Nat.mod_eq_sub_mod (by omega)]
      have : (i < (n + 1) * z.size) ↔ (i - z.size < n * z.size) := by rw [Nat.succ_mul]; omega
      by_cases h2 : i - z.size < n * z.size
      · rw [if_pos (this.2 h2), if_pos h2]
      · rw [if_neg (fun q => h2 (this.1 q)), if_neg h2]

theorem map_range_zero {α : Type} (f : Nat → α) : (Array.range 0).map f = #[] := Array.eq_empty_of_size_eq_zero (by simp)
/-- make -/
theorem imake_sim (hR : Rel ρ H w) {lim : Nat} {t e : TypeId} (ht : P.underlying t = some (.slice e)) {zs : List Value} (hz : zcells P e = some zs) {l l' c c' v : Value} {H' : IHeap}
    (hn : H.next < H'.next → ρ H.next = none) (h : imake (tby P e) zs H l c = some (v, H')) (hl : VR ρ l l') (hc : VR ρ c c') :
    ∃ ρ' v' w', (Instr.makeSlice t l' c').run P w = .ok v' w' ∧ VR ρ' v v' ∧ Rel ρ' H' w' ∧ Ext lim H.next H'.next ρ ρ' w w' := by
  obtain ⟨z, z1, z2, z3, z4, z5, z6, z7⟩ := zcells_sim hz
  unfold imake at h
  split at h
  · rename_i k n k' m
    split at h
    · rename_i hb
      obtain ⟨rfl, h0, h1, h2⟩ := hb
      simp at h; obtain ⟨rfl, rfl⟩ := h
      have hn := hn (by simp)
      rw [hl.int_inv, hc.int_inv]
      have hw1 : IntKind.i64.wrap n = n := by
        simp only [IntKind.wrap, IntKind.bits, IntKind.signed]
        have : n % (2 ^ 64 : Int) = n := by omega
        simp; omega
      obtain ⟨ti, hti⟩ := okT_info z5
      have hby : ti.bytes = tby P e := by simp [tby, hti]
      have hsz : z.cells.size = tsz P e := by rw [← Array.length_toList, z2, z4]
      have hlen : (List.replicate n.toNat zs).flatten.length = n.toNat * tsz P e := by rw [flatten_rep, z4]
      have hlarge : ¬ (tby P e : Int) * n > 2 ^ 48 := by
        rw [Int.mul_comm]; omega
      have run : (Instr.makeSlice t (.int k n) (.int k' n)).run P w = .ok (.slice (some ⟨w.heap.size, 0, none⟩) n.toNat n.toNat) (w.alloc (.cells (List.replicate n.toNat zs).flatten.toArray e)) := by
        simp only [Instr.makeSlice, Sem.run_bind, run_underlying ht, Result.andThen_ok, asInt, asIntOf, Sem.run_pure, run_typeInfo w hti, hw1, hby]
        rw [if_neg (by simp; omega)]
        simp only [Sem.run_bind, Sem.run_pure, Result.andThen_ok, run_askRoom, run_size w z5]
        by_cases hz0 : n.toNat * tsz P e = 0
        · have e0 : (List.replicate n.toNat zs).flatten = [] := List.eq_nil_of_length_eq_zero (by omega)
          rw [if_pos hz0]
          simp only [newRow, hz0, e0, map_range_zero]
          simp
        · rw [if_neg hz0]
          have e1 : ((Array.range (n.toNat * tsz P e)).map fun i => z.cells[i % z.cells.size]!) = (List.replicate n.toNat zs).flatten.toArray := by
            apply Array.ext'
            rw [← hsz, rep_range, z2]
          simp [run_zero w z1, newRow, e1]
      refine ⟨ρ.add H.next w.heap.size 0 (n.toNat * tsz P e), _, _, run, ?_, ?_, ?_⟩
      · have := VR.slc (ρ := ρ.add H.next w.heap.size 0 (n.toNat * tsz P e)) (s := zs.length) (o := 0) (n := n.toNat) (c := n.toNat + 1) (c' := n.toNat) (Ren.add_self) (by omega) (by omega) (by rw [z4]; omega)
        simpa using this
      · refine hR.push hn (Turn.alloc _ _) ⟨by simp [hlen], ⟨?_, ?_⟩, fun _ => rfl⟩
        · intro i v he
          obtain ⟨v', e', q⟩ := ((z6 (ρ.add H.next w.heap.size 0 (n.toNat * tsz P e))).rep n.toNat).get he
          exact ⟨v', by simpa using e', q⟩
        · intro v hv
          simp only [List.mem_flatten, List.mem_replicate] at hv
          obtain ⟨l, ⟨_, rfl⟩, hv⟩ := hv
          exact z3 v hv
      · exact Ext.push hn (Turn.alloc _ _)
    · simp at h
  · simp at h
end Go.Ideal
/- The ideal machine, part O: append, copy, clear. -/
namespace Go.Ideal
variable {ρ : Ren} {H : IHeap} {w : World} {P : Program}

/-- A list that is read, at its place in the world. -/
structure SrcR (ρ : Ren) (P : Program) (w : World) (size m : Nat) (new : List Value) (x' : Value) : Prop where
  ex : ∃ (a : Option Addr) (c : Nat) (new' : List Value), x' = .slice a m c ∧ new.length = m * size ∧ VRs ρ new new' ∧ (∀ v ∈ new, v.oneCell = true) ∧ (∀ k w', w'.heap = w.heap → k ≤ m → (Builtin.firstCells size k x').run P w' = .ok (new'.take (k * size)).toArray w')

theorem capBound (need c bytes : Nat) (h : need * bytes ≤ 1099511627776) (h1 : 1 ≤ need) (hc : c < need) : Builtin.nextslicecap need c * bytes ≤ 281474976710656 := by
  have g : ∀ r c, Builtin.growBy need r c ≤ max c (need + (need + 768) / 4) := by
    intro r
    induction r with
    | zero => intro c; unfold Builtin.growBy; omega
    | succ r ih =>
      intro c
      unfold Builtin.growBy
      split
      · omega
      · have := ih (c + (c + 768) / 4); omega
  have k : Builtin.nextslicecap need c ≤ 194 * need := by
    unfold Builtin.nextslicecap
    split
    · omega
    · split
      · omega
      · have := g 4 c; omega
  have := Nat.mul_le_mul_right bytes k
  have e : 194 * need * bytes = 194 * (need * bytes) := by rw [Nat.mul_assoc]
  omega

section
variable {t u ty e e2 : TypeId} (ht : P.underlying t = some (.slice e)) (hu : P.underlying u = some (.slice e2)) (he : okT P e = true)
include ht hu he
/-- append where there is room -/
theorem run_append_in (a : Option Addr) (n c : Nat) (x' : Value) (m : Nat) (new' : List Value) {a2 : Option Addr} {c2 : Nat} (hx : x' = .slice a2 m c2) (hf : (Builtin.firstCells (tsz P e) m x').run P w = .ok new'.toArray w) (hc : n + m ≤ c) :
    (Builtin.append_ #[t, u] ty #[.slice a n c, x']).run P w = (match a with | some a => (storeCells (a.add (n * tsz P e)) new').run P w | none => .ok () w).andThen fun _ w => .ok (.slice a (n + m) c) w := by
  subst hx
  unfold Builtin.append_
  cases a with
  | none => simp [run_underlying ht, run_underlying hu, run_size w he, Builtin.lenOf, hc, hf]
  | some a => simp [run_underlying ht, run_underlying hu, run_size w he, Builtin.lenOf, hc, hf]

/-- append where there is none -/
theorem run_append_new {z : Value} (hz : tzero P e = some z) (a : Option Addr) (n c : Nat) (x' : Value) (m : Nat) (old' new' : List Value) {a2 : Option Addr} {c2 : Nat} (hx : x' = .slice a2 m c2)
    (hf : ∀ w', w'.heap = w.heap → (Builtin.firstCells (tsz P e) m x').run P w' = .ok new'.toArray w')
    (ho : ∀ w', w'.heap = w.heap → (Builtin.firstCells (tsz P e) n (.slice a n c)).run P w' = .ok old'.toArray w') (hc : ¬ n + m ≤ c) (hb : (n + m) * tby P e ≤ 1099511627776) (hs : n + m ≤ 1099511627776 ∨ tby P e ≠ 0) :
    ∃ rest : Array Value, ∃ cap : Nat, n + m ≤ cap ∧ (Builtin.append_ #[t, u] ty #[.slice a n c, x']).run P w = .ok (.slice (some ⟨w.heap.size, 0, none⟩) (n + m) cap) (w.drew.alloc (.cells ((old' ++ new').toArray ++ rest) e)) ∧
      rest.size = (cap - (n + m)) * z.cells.size := by
  subst hx
  obtain ⟨ti, hti⟩ := okT_info he
  have hby : ti.bytes = tby P e := by simp [tby, hti]
  have h1 := capBound (n + m) c (tby P e) hb (by omega) (by omega)
  have h2 : ¬ (281474976710656 < Builtin.nextslicecap (n + m) c * tby P e) := by omega
  have hq : (Question.appendCap (n + m) c e).forced = false := rfl
  have h63 : ¬ (9223372036854775807 < ((n : Int) + (m : Int)) ∧ tby P e = 0) := by
    rintro ⟨k1, k2⟩
    rcases hs with hs | hs
    · omega
    · exact hs k2
  refine ⟨Builtin.zeroCells z.cells ((Question.appendCap (n + m) c e).cut (w.tape w.drawn (.appendCap (n + m) c e)) - (n + m)), (Question.appendCap (n + m) c e).cut (w.tape w.drawn (.appendCap (n + m) c e)), ?_, ?_, ?_⟩
  · simp [Question.cut]
  · unfold Builtin.append_
    simp [run_underlying ht, run_underlying hu, run_size, he, Builtin.lenOf, hc, run_typeInfo w hti, hby, h2, h63, hq, run_zero, hz, newRow]
    simp [run_typeInfo w.drew hti, hf w.drew rfl, ho w.drew rfl]
    rw [← List.append_toArray, Array.append_assoc]
  · simp [Builtin.zeroCells]
end

/-- What lies at a row's place, ahead of and behind. -/
theorem SrcR.slc {x' : Value} {size m : Nat} {new : List Value} (h : SrcR ρ P w size m new x') : ∃ (a : Option Addr) (c : Nat) (new' : List Value), x' = .slice a m c ∧ new.length = m * size ∧ VRs ρ new new' ∧ (∀ v ∈ new, v.oneCell = true) ∧ new'.length = m * size ∧ (∀ v ∈ new', v.oneCell = true) ∧ (∀ k w', w'.heap = w.heap → k ≤ m → (Builtin.firstCells size k x').run P w' = .ok (new'.take (k * size)).toArray w') := by
  obtain ⟨a, c, new', h1, h2, h3, h4, h5⟩ := h.ex
  exact ⟨a, c, new', h1, h2, h3, h4, by rw [← h3.length, h2], h3.one h4, h5⟩

theorem srcAll {x' : Value} {size m : Nat} {new' : List Value} (hl : new'.length = m * size) (h : ∀ k w', w'.heap = w.heap → k ≤ m → (Builtin.firstCells size k x').run P w' = .ok (new'.take (k * size)).toArray w') (w' : World) (e : w'.heap = w.heap) :
    (Builtin.firstCells size m x').run P w' = .ok new'.toArray w' := by
  rw [h m w' e (Nat.le_refl m), ← hl, List.take_length]

/-- A new row of cells. -/
theorem push_row (hR : Rel ρ H w) (hn : ρ H.next = none) {lim : Nat} {w0 : World} (hw0 : w0 = w ∨ w0 = w.drew) {l l' : List Value} (hv : VRs ρ l l') (h1 : ∀ v ∈ l, v.oneCell = true) (rest : Array Value) (e : TypeId) {n size cap : Nat} (hl : l.length = n * size) (hs : size = 0 ∨ rest.size = (cap - n) * size) (hc : n ≤ cap) (fl : Nat) (hfl : fl ≠ 1) :
    ∃ ρ', VR ρ' (Ideal.slc size H.next 0 n (n + 1)) (.slice (some ⟨w.heap.size, 0, none⟩) n cap) ∧ Rel ρ' (H.push (.cells l fl)) (w0.alloc (.cells (l'.toArray ++ rest) e)) ∧ Ext lim H.next (H.next + 1) ρ ρ' w (w0.alloc (.cells (l'.toArray ++ rest) e)) := by
  have hle : l'.length = n * size := by rw [← hv.length, hl]
  have hT : Turn w (w0.alloc (.cells (l'.toArray ++ rest) e)) w.heap.size (.cells (l'.toArray ++ rest) e) := by
    rcases hw0 with rfl | rfl
    · exact Turn.alloc _ _
    · exact (Turn.alloc w.drew _).drew
  refine ⟨ρ.add H.next w.heap.size 0 (l'.toArray ++ rest).size, ?_, hR.push hn hT ⟨rfl, ⟨?_, h1⟩, fun _ => rfl⟩, Ext.push hn hT⟩
  · have := VR.slc (ρ := ρ.add H.next w.heap.size 0 (l'.toArray ++ rest).size) (s := size) (o := 0) (n := n) (c := n + 1) (c' := cap) Ren.add_self (by omega) (by omega) (by
      simp [hle]
      rcases hs with rfl | hs
      · omega
      · rw [hs, ← Nat.add_mul]; exact Nat.le_of_eq (by congr 1; omega))
    simpa using this
  · intro i v hi
    obtain ⟨v', e', q⟩ := (hv.mono (Ren.le_add (r := w.heap.size) (δ := 0) (z := (l'.toArray ++ rest).size) hn)).get hi
    refine ⟨v', ?_, q⟩
    have : i < l'.length := by
      rcases Nat.lt_or_ge i l'.length with h | h
      · exact h
      · rw [List.getElem?_eq_none h] at e'; simp at e'
    simp only [Nat.add_zero]
    rw [Array.getElem?_append_left (by simpa using this)]
    simpa using e'

/-- A row that grows where it stands: the old block is read only, or dead. -/
theorem Rel.grow {w' : World} {b r δ z o : Nat} {cs l : List Value} {fl : Nat} {c c' : Array Value} {t t' : TypeId} {fr fr' : Nat × Nat} (share : Bool) (h : Rel ρ H w) (hn : ρ H.next = none) (hb : ρ b = some (r, δ, z)) (hg : H.get b = some (.cells cs fl))
    (hw : w.heap[r]? = some (.cells c t fr)) (hT : Turn w w' r (.cells c' t' fr')) (hz : c'.size = c.size) (hz2 : c.size = z) (hfr : fr'.2 = 0) (hfl : fl = 0 ∨ (share = true ∧ fl = 2)) (hk : share = true → ∀ i, i < δ + cs.length → c'[i]? = c[i]?)
    (hs : Seg (ρ.add H.next r (o + δ) z) l c' (o + δ)) (hl : share = true → cs.length ≤ o + l.length) :
    Rel (ρ.add H.next r (o + δ) z) ((H.set b (bif share then .cells cs 1 else .dead)).push (.cells l (bif share then 2 else 0))) w' := by
  have hbn : b ≠ H.next := by have := h.lt hg; omega
  have hget : ∀ c o2, ((H.set b (bif share then .cells cs 1 else .dead)).push (.cells l (bif share then 2 else 0))).get c = some o2 →
      (c = H.next ∧ o2 = .cells l (bif share then 2 else 0)) ∨ (c = b ∧ o2 = (bif share then .cells cs 1 else .dead)) ∨ (c ≠ H.next ∧ c ≠ b ∧ H.get c = some o2) := by
    intro c o2 g
    rw [IHeap.get_push] at g
    by_cases hc : c = (H.set b (bif share then .cells cs 1 else .dead)).next
    · rw [if_pos hc] at g; rw [IHeap.next_set] at hc; simp at g; exact .inl ⟨hc, g.symm⟩
    · rw [if_neg hc, IHeap.get_set] at g
      by_cases hc2 : c = b
      · rw [if_pos hc2] at g; simp at g; exact .inr (.inl ⟨hc2, g.symm⟩)
      · rw [if_neg hc2] at g; rw [IHeap.next_set] at hc; exact .inr (.inr ⟨hc, hc2, g⟩)
  have hadd : ∀ c x, c ≠ H.next → (ρ.add H.next r (o + δ) z) c = some x → ρ c = some x := by
    intro c x hc e
    simpa [Ren.add, hc] using e
  have hnew : ∀ x, (ρ.add H.next r (o + δ) z) H.next = some x → x = (r, o + δ, z) := by
    intro x e; simp at e; exact e.symm
  -- another block that lives on the row
  have hoth : ∀ c δ2 z2 o2, c ≠ b → ρ c = some (r, δ2, z2) → H.get c = some o2 → live o2 = true →
      share = true ∧ fl = 2 ∧ ∃ cs2 fl2, o2 = .cells cs2 fl2 ∧ fl2 ≠ 0 ∧ fl2 ≠ 2 ∧ δ2 + cs2.length ≤ δ + cs.length := by
    intro c δ2 z2 o2 hne e g hlv
    obtain ⟨k1, k2⟩ := h.sep _ _ _ _ _ _ _ hb e hg g rfl hlv (fun e => hne e.symm)
    simp [rdonly] at k1
    rcases hfl with rfl | ⟨hsh, rfl⟩
    · exact absurd rfl k1
    · cases o2 with
      | cells cs2 fl2 =>
        simp [rdonly] at k2
        obtain ⟨k3, k4⟩ := h.last _ _ _ _ _ _ _ _ _ _ hb e hg g
        exact ⟨hsh, rfl, cs2, fl2, rfl, k2, fun q => hne (k4 q).symm, k3⟩
      | map _ _ _ => simp [rdonly] at k2
      | fmap _ _ => simp [rdonly] at k2
      | dead => simp [live] at hlv
  have hrw : r < w.heap.size := h.dom _ _ _ hb
  refine ⟨?_, ?_, ?_, ?_, ?_⟩
  · intro c hc
    simp at hc
    have := h.lt hg
    rw [IHeap.get_push, if_neg (by simp; omega), IHeap.get_set, if_neg (by omega)]
    exact h.wf c (by omega)
  · intro c r' x e
    by_cases hc : c = H.next
    · subst hc; have := hnew _ e; simp at this; have := hT.lt; omega
    · have := h.dom _ _ _ (hadd _ _ hc e); have := hT.size; omega
  · intro c r' δ' z' o2 e g
    rcases hget _ _ g with ⟨rfl, rfl⟩ | ⟨rfl, rfl⟩ | ⟨hc1, hc2, g⟩
    · have := hnew _ e; simp at this; obtain ⟨rfl, rfl, rfl⟩ := this
      rw [hT.at_]
      exact ⟨by omega, hs, fun _ => hfr⟩
    · have e := hadd _ _ hbn e
      rw [hb] at e; simp at e; obtain ⟨rfl, rfl, rfl⟩ := e
      cases hsh : share with
      | false => exact trivial
      | true =>
        rw [hT.at_]
        have ho := h.obj _ _ _ _ _ hb hg
        rw [hw] at ho
        refine ⟨by omega, ⟨fun i v hi => ?_, ho.2.1.2⟩, fun q => absurd rfl q⟩
        obtain ⟨v', e', q⟩ := ho.2.1.1 i v hi
        refine ⟨v', ?_, q.mono (Ren.le_add hn)⟩
        have hlt : i < cs.length := by
          rcases Nat.lt_or_ge i cs.length with h' | h'
          · exact h'
          · rw [List.getElem?_eq_none h'] at hi; simp at hi
        rw [hk hsh _ (by omega)]; exact e'
    · have e0 := hadd _ _ hc1 e
      by_cases hrr : r' = r
      · rw [hrr] at e0 ⊢
        cases hlv : live o2 with
        | false => cases o2 <;> simp [live] at hlv; exact trivial
        | true =>
          obtain ⟨hsh, hf2, cs2, fl2, rfl, k1, k2, k3⟩ := hoth _ _ _ _ hc2 e0 g hlv
          have ho := h.obj _ _ _ _ _ e0 g
          rw [hw] at ho
          rw [hT.at_]
          refine ⟨by have := ho.1; omega, ⟨fun i v hi => ?_, ho.2.1.2⟩, fun _ => hfr⟩
          obtain ⟨v', e', q⟩ := ho.2.1.1 i v hi
          refine ⟨v', ?_, q.mono (Ren.le_add hn)⟩
          have hlt : i < cs2.length := by
            rcases Nat.lt_or_ge i cs2.length with h' | h'
            · exact h'
            · rw [List.getElem?_eq_none h'] at hi; simp at hi
          rw [hk hsh _ (by omega)]; exact e'
      · rw [hT.rest _ (h.dom _ _ _ e0) hrr]
        exact (h.obj _ _ _ _ _ e0 g).mono (Ren.le_add hn)
  · intro b1 b2 r' x1 x2 o1 o2 E1 E2 G1 G2 l1 l2 hne
    rcases hget _ _ G1 with ⟨rfl, rfl⟩ | ⟨rfl, rfl⟩ | ⟨hc1, hc2, g1⟩ <;> rcases hget _ _ G2 with ⟨hb2, q2⟩ | ⟨hb2, q2⟩ | ⟨hd1, hd2, g2⟩
    · exact absurd hb2.symm hne
    · subst q2
      cases share
      · simp [live] at l2
      · simp [rdonly]
    · have e2 := hadd _ _ hd1 E2
      have := hnew _ E1; simp at this; obtain ⟨rfl, _⟩ := this
      obtain ⟨hsh, hf2, cs2, fl2, rfl, k1, k2, k3⟩ := hoth _ _ _ _ hd2 e2 g2 l2
      simp [rdonly, hsh, k1]
    · subst q2
      cases share
      · simp [live] at l1
      · simp [rdonly]
    · exact absurd hb2.symm hne
    · have e2 := hadd _ _ hd1 E2
      have e1 := hadd _ _ hbn E1
      rw [hb] at e1; simp at e1; obtain ⟨rfl, _⟩ := e1
      obtain ⟨hsh, hf2, cs2, fl2, rfl, k1, k2, k3⟩ := hoth _ _ _ _ hd2 e2 g2 l2
      simp [rdonly, hsh, k1]
    · have e1 := hadd _ _ hc1 E1
      subst hb2
      have := hnew _ E2; simp at this; obtain ⟨rfl, _⟩ := this
      obtain ⟨hsh, hf2, cs2, fl2, rfl, k1, k2, k3⟩ := hoth _ _ _ _ hc2 e1 g1 l1
      simp [rdonly, hsh, k1, q2]
    · have e1 := hadd _ _ hc1 E1
      rw [hb2] at E2
      have e2 := hadd _ _ hbn E2
      rw [hb] at e2; simp at e2; obtain ⟨rfl, _⟩ := e2
      obtain ⟨hsh, hf2, cs2, fl2, rfl, k1, k2, k3⟩ := hoth _ _ _ _ hc2 e1 g1 l1
      simp [rdonly, hsh, k1, q2]
    · exact h.sep _ _ _ _ _ _ _ (hadd _ _ hc1 E1) (hadd _ _ hd1 E2) g1 g2 l1 l2 hne
  · intro b1 b2 r' δ1 δ2 z1 z2 cs1 cs2 fl2 E1 E2 G1 G2
    rcases hget _ _ G1 with ⟨rfl, q1⟩ | ⟨rfl, q1⟩ | ⟨hc1, hc2, g1⟩ <;> rcases hget _ _ G2 with ⟨hb2, q2⟩ | ⟨hb2, q2⟩ | ⟨hd1, hd2, g2⟩
    · subst hb2
      have h1 := hnew _ E1; have h2 := hnew _ E2; simp at h1 h2 q1 q2
      obtain ⟨_, rfl, _⟩ := h1; obtain ⟨_, rfl, _⟩ := h2
      obtain ⟨rfl, _⟩ := q2; obtain ⟨rfl, _⟩ := q1
      exact ⟨Nat.le_refl _, fun _ => rfl⟩
    · rw [hb2] at E2
      have e2 := hadd _ _ hbn E2
      rw [hb] at e2
      have := hnew _ E1; simp at this; obtain ⟨rfl, rfl, rfl⟩ := this
      cases hsh : share with
      | false => simp [hsh] at q2
      | true =>
        simp [hsh] at q1 q2 e2
        obtain ⟨rfl, rfl⟩ := q2
        obtain ⟨rfl, rfl⟩ := e2
        subst q1
        have := hl hsh
        exact ⟨by omega, fun q => by simp at q⟩
    · have e2 := hadd _ _ hd1 E2
      have := hnew _ E1; simp at this; obtain ⟨rfl, rfl, rfl⟩ := this
      obtain ⟨hsh, hf2, cs3, fl3, q, k1, k2, k3⟩ := hoth _ _ _ _ hd2 e2 g2 rfl
      simp at q; obtain ⟨rfl, rfl⟩ := q
      simp [hsh] at q1; subst q1
      have := hl hsh
      exact ⟨by omega, fun q => absurd q k2⟩
    · cases hsh : share <;> simp [hsh] at q1
    · cases hsh : share <;> simp [hsh] at q1
    · cases hsh : share <;> simp [hsh] at q1
    · have e1 := hadd _ _ hc1 E1
      subst hb2
      have := hnew _ E2; simp at this; obtain ⟨rfl, rfl, rfl⟩ := this
      obtain ⟨hsh, hf2, cs3, fl3, q, k1, k2, k3⟩ := hoth _ _ _ _ hc2 e1 g1 rfl
      simp at q; obtain ⟨rfl, rfl⟩ := q
      exact absurd rfl k2
    · have e1 := hadd _ _ hc1 E1
      rw [hb2] at E2
      have e2 := hadd _ _ hbn E2
      rw [hb] at e2; simp at e2; obtain ⟨rfl, _⟩ := e2
      obtain ⟨hsh, hf2, cs3, fl3, q, k1, k2, k3⟩ := hoth _ _ _ _ hc2 e1 g1 rfl
      simp at q; obtain ⟨rfl, rfl⟩ := q
      exact absurd rfl k2
    · exact h.last _ _ _ _ _ _ _ _ _ _ (hadd _ _ hc1 E1) (hadd _ _ hd1 E2) g1 g2

theorem Ext.grow {lim : Nat} {w' : World} {x : Obj} {b r δ z o : Nat} {x0 : Nat × Nat} (hn : ρ H.next = none) (hb : ρ b = some (r, x0)) (hl : lim ≤ b) (hlt : b < H.next) (ht : Turn w w' r x) : Ext lim H.next (H.next + 1) ρ (ρ.add H.next r δ z) w w' where
  mono := Ren.le_add hn
  size := ht.size
  os := ht.os
  tape := ht.tape
  output := ht.output
  kept := fun k hk hno => by
    by_cases e : k = r
    · subst e; exact (hno _ _ hb hl hlt).elim
    · exact ht.rest k hk e
  fresh := fun c r' y e hx => by
    by_cases hc : c = H.next
    · subst hc
      simp at e
      obtain ⟨rfl, _⟩ := e
      exact ⟨Nat.le_refl _, by omega, .inr ⟨b, x0, hb, hl, hlt⟩⟩
    · simp [Ren.add, hc] at e
      rw [hx] at e; simp at e

/-- A block that is read only from now on, or dead. -/
theorem Rel.retire {b : Nat} {cs : List Value} {fl : Nat} (share : Bool) (h : Rel ρ H w) (hg : H.get b = some (.cells cs fl)) :
    Rel ρ (H.set b (bif share then .cells cs 1 else .dead)) w := by
  have hget : ∀ c o2, (H.set b (bif share then .cells cs 1 else .dead)).get c = some o2 → (c = b ∧ o2 = (bif share then .cells cs 1 else .dead)) ∨ (c ≠ b ∧ H.get c = some o2) := by
    intro c o2 g
    rw [IHeap.get_set] at g
    by_cases hc2 : c = b
    · rw [if_pos hc2] at g; simp at g; exact .inl ⟨hc2, g.symm⟩
    · rw [if_neg hc2] at g; exact .inr ⟨hc2, g⟩
  refine ⟨?_, h.dom, ?_, ?_, ?_⟩
  · intro c hc
    simp at hc
    have := h.lt hg
    rw [IHeap.get_set, if_neg (by omega)]; exact h.wf c hc
  · intro c r' δ' z' o2 e g
    rcases hget _ _ g with ⟨rfl, rfl⟩ | ⟨_, g⟩
    · have := h.obj _ _ _ _ _ e hg
      cases share
      · exact trivial
      · cases hw : w.heap[r']? with
        | none => rw [hw] at this; exact this
        | some x =>
          rw [hw] at this
          cases x <;> first | exact this | exact ⟨this.1, this.2.1, fun q => absurd rfl q⟩
    · exact h.obj _ _ _ _ _ e g
  · intro b1 b2 r' x1 x2 o1 o2 e1 e2 G1 G2 l1 l2 hne
    rcases hget _ _ G1 with ⟨rfl, q1⟩ | ⟨hc1, g1⟩ <;> rcases hget _ _ G2 with ⟨hb2, q2⟩ | ⟨hc2, g2⟩
    · exact absurd hb2.symm hne
    · have := h.sep _ _ _ _ _ _ _ e1 e2 hg g2 rfl l2 hne
      subst q1
      cases share
      · simp [live] at l1
      · exact ⟨rfl, this.2⟩
    · subst hb2
      have := h.sep _ _ _ _ _ _ _ e1 e2 g1 hg l1 rfl hne
      subst q2
      cases share
      · simp [live] at l2
      · exact ⟨this.1, rfl⟩
    · exact h.sep _ _ _ _ _ _ _ e1 e2 g1 g2 l1 l2 hne
  · intro b1 b2 r' δ1 δ2 z1 z2 cs1 cs2 fl2 e1 e2 G1 G2
    rcases hget _ _ G1 with ⟨rfl, q1⟩ | ⟨hc1, g1⟩
    · cases share <;> simp at q1
    · rcases hget _ _ G2 with ⟨hb2, q2⟩ | ⟨hc2, g2⟩
      · subst hb2
        have := h.last _ _ _ _ _ _ _ _ _ _ e1 e2 g1 hg
        cases share
        · simp at q2
        · simp at q2
          obtain ⟨rfl, rfl⟩ := q2
          exact ⟨this.1, fun q => by simp at q⟩
      · exact h.last _ _ _ _ _ _ _ _ _ _ e1 e2 g1 g2

theorem iappend_sim (hR : Rel ρ H w) {t u ty e e2 : TypeId} (ht : P.underlying t = some (.slice e)) (hu : P.underlying u = some (.slice e2)) {zs : List Value} (hz : zcells P e = some zs) {share : Bool} {lim m : Nat} {s s' x' v : Value} {new : List Value} {H' : IHeap}
    (hn : H.next < H'.next → ρ H.next = none) (h : iappend share (tsz P e) (tby P e) lim H s m new = some (v, H')) (hs : VR ρ s s') (hx : SrcR ρ P w (tsz P e) m new x') :
    ∃ ρ' v' w', (Builtin.append_ #[t, u] ty #[s', x']).run P w = .ok v' w' ∧ VR ρ' v v' ∧ Rel ρ' H' w' ∧ Ext lim H.next H'.next ρ ρ' w w' := by
  obtain ⟨z, z1, z2, z3, z4, he, z6, z7⟩ := zcells_sim hz
  have hzs : z.cells.size = tsz P e := by rw [← Array.length_toList, z2, z4]
  obtain ⟨a2, c2, new', hx', n1, n2, n3, n4, n5, n6⟩ := hx.slc
  have hsrc := srcAll n4 n6
  unfold iappend at h
  cases hm : m == 0 with
  | true =>
    simp only [hm, cond_true] at h
    have hm : m = 0 := by simpa using hm
    subst hm
    have hnil : new' = [] := List.eq_nil_of_length_eq_zero (by omega)
    split at h
    · rename_i p k c
      simp at h; obtain ⟨rfl, rfl⟩ := h
      have key : ∃ a c', s' = .slice a k c' ∧ k ≤ c' := by
        cases hs with
        | nilslc => exact ⟨_, _, rfl, by omega⟩
        | slc _ _ _ _ _ _ => exact ⟨_, _, rfl, by omega⟩
        | slcz _ _ => exact ⟨_, _, rfl, by omega⟩
      obtain ⟨a, c', rfl, hk⟩ := key
      refine ⟨ρ, _, w, ?_, hs, hR, Ext.refl _ _ _ _⟩
      rw [run_append_in ht hu he a k c' x' 0 new' hx' (hsrc w rfl) (by omega), hnil]
      cases a <;> simp [storeCells]
    · simp at h
  | false =>
    simp only [hm, cond_false] at h
    have hm : m ≠ 0 := by simpa using hm
    -- all anew
    have fresh : ρ H.next = none →  ∀ (H1 : IHeap) (a : Option Addr) (n c : Nat) (l l' : List Value) (fl : Nat), fl ≠ 1 → Rel ρ H1 w → H1.next = H.next → VRs ρ l l' → (∀ v ∈ l, v.oneCell = true) → l.length = n * tsz P e → ¬ n + m ≤ c →
        (∀ w', w'.heap = w.heap → (Builtin.firstCells (tsz P e) n (.slice a n c)).run P w' = .ok l'.toArray w') → (n + m) * (tby P e + 1) ≤ 1099511627776 →
        ∃ ρ' v' w', (Builtin.append_ #[t, u] ty #[.slice a n c, x']).run P w = .ok v' w' ∧ VR ρ' (Ideal.slc (tsz P e) H.next 0 (n + m) (n + m + 1)) v' ∧ Rel ρ' (H1.push (.cells (l ++ new) fl)) w' ∧ Ext lim H.next (H1.push (.cells (l ++ new) fl)).next ρ ρ' w w' := by
      intro hn H1 a n c l l' fl hfl hR1 hnx hv h1 hl hc hf hb
      have hb1 : (n + m) * tby P e ≤ 1099511627776 := Nat.le_trans (Nat.mul_le_mul_left _ (Nat.le_succ _)) hb
      have hb2 : n + m ≤ 1099511627776 := Nat.le_trans (Nat.le_mul_of_pos_right _ (Nat.succ_pos _)) hb
      obtain ⟨rest, cap, q1, q2, q3⟩ := run_append_new (P := P) (w := w) (ty := ty) ht hu he z1 a n c x' m l' new' hx' hsrc hf hc hb1 (.inl hb2)
      obtain ⟨ρ', r1, r2, r3⟩ := push_row (lim := lim) hR1 (by rw [hnx]; exact hn) (w0 := w.drew) (.inr rfl) (hv.append n2) (by
        intro v hv; rcases List.mem_append.1 hv with hv | hv
        · exact h1 v hv
        · exact n3 v hv) rest e (n := n + m) (size := tsz P e) (cap := cap) (by rw [List.length_append, hl, n1, Nat.add_mul]) (.inr (by rw [q3, hzs])) q1 fl hfl
      exact ⟨ρ', _, _, q2, by rw [hnx] at r1; exact r1, r2, by rw [hnx] at r3; simpa [hnx] using r3⟩
    split at h
    · -- nil
      cases hd : decide (m * (tby P e + 1) ≤ 1099511627776) with
      | false => simp [hd] at h
      | true =>
        simp [hd] at h; obtain ⟨rfl, rfl⟩ := h
        cases hs with
        | nilslc =>
          have := fresh (hn (by simp)) H none 0 0 [] [] 0 (by omega) hR rfl .nil (by simp) (by simp) (by omega) (fun w' _ => by simp [Builtin.firstCells]) (by simpa using hd)
          simpa using this
    · rename_i b o sp n c
      cases hd : !decide ((n + m) * (tby P e + 1) ≤ 1099511627776) || !(sp == tsz P e) with
      | true => simp [hd] at h
      | false =>
        simp only [hd, cond_false] at h
        simp at hd
        obtain ⟨hd, rfl⟩ := hd
        cases h0 : n == 0 && c == 0 with
        | true =>
          simp only [h0, cond_true] at h
          simp at h h0; obtain ⟨rfl, rfl⟩ := h
          obtain ⟨rfl, rfl⟩ := h0
          rcases hs.slc_inv with ⟨r, δ, z, c', e1, rfl, h2, _⟩ | ⟨a, rfl, _, _⟩
          · omega
          · have := fresh (hn (by simp)) H (some a) 0 0 [] [] 0 (by omega) hR rfl .nil (by simp) (by simp) (by omega) (fun w' _ => by simp [Builtin.firstCells, loadCells, loadCellsFrom]) (by simpa using hd)
            simpa using this
        | false =>
          simp only [h0, cond_false] at h
          obtain ⟨⟨cs, fl⟩, hc, h⟩ := Option.bind_eq_some_iff.1 h
          simp only at h
          have hg := hcells_eq hc
          cases hl : !decide (lim ≤ b) || !decide (o + n * tsz P e ≤ cs.length) with
          | true => simp [hl] at h
          | false =>
            simp only [hl, cond_false] at h
            simp at hl
            obtain ⟨hlim, hlen⟩ := hl
            -- the two ways, as one
            have h' : v = Ideal.slc (tsz P e) H.next 0 (n + m) (n + m + 1) ∧ H' = (H.set b (bif share then .cells cs 1 else .dead)).push (.cells ((cs.drop o).take (n * tsz P e) ++ new) (bif share then 2 else 0)) ∧
                (fl = 0 ∨ (share = true ∧ fl = 2)) ∧ (share = true → o + n * tsz P e = cs.length) := by
              cases share with
              | true =>
                simp only [cond_true] at h
                by_cases hq : (fl = 0 ∨ fl = 2) ∧ o + n * tsz P e = cs.length
                · obtain ⟨hq1, hq2⟩ := hq
                  have e1 : (!(fl == 0 || fl == 2) || !(o + n * tsz P e == cs.length)) = false := by simp [hq2]; rcases hq1 with h | h <;> simp [h]
                  simp only [e1, cond_false, Option.some.injEq, Prod.mk.injEq] at h
                  obtain ⟨rfl, rfl⟩ := h
                  refine ⟨rfl, rfl, ?_, fun _ => hq2⟩
                  rcases hq1 with h | h
                  · exact .inl h
                  · exact .inr ⟨rfl, h⟩
                · have e1 : (!(fl == 0 || fl == 2) || !(o + n * tsz P e == cs.length)) = true := by
                    simp
                    by_cases h1 : fl = 0
                    · right; intro h2; exact hq ⟨.inl h1, h2⟩
                    · by_cases h3 : fl = 2
                      · right; intro h2; exact hq ⟨.inr h3, h2⟩
                      · left; exact ⟨h1, h3⟩
                  simp only [e1, cond_true] at h
                  simp at h
              | false =>
                simp only [cond_false] at h
                by_cases hq : fl = 0
                · subst hq
                  simp at h
                  obtain ⟨rfl, rfl⟩ := h
                  exact ⟨rfl, rfl, .inl rfl, fun q => by simp at q⟩
                · have : (fl == 0) = false := by simpa using hq
                  simp [this] at h
            obtain ⟨rfl, rfl, hfl, hsh⟩ := h'
            have hn := hn (by simp)
            have hf2 : (bif share then 2 else 0) ≠ 1 := by cases share <;> decide
            have hone : ∀ {r δ z : Nat}, ρ b = some (r, δ, z) → ∀ v ∈ (cs.drop o).take (n * tsz P e), v.oneCell = true := by
              intro r δ z e1 v hv
              obtain ⟨_, _, _, _, _, hseg, _⟩ := hR.row e1 hg
              exact hseg.2 v (List.mem_of_mem_drop (List.mem_of_mem_take hv))
            rcases hs.slc_inv with ⟨r, δ, z', c', e1, rfl, h2, h3, h4⟩ | ⟨a, rfl, rfl, _⟩
            · obtain ⟨arr, tt, fr, hw, hz', hseg, hfr⟩ := hR.row e1 hg
              have hfr0 : fr.2 = 0 := hfr (by rcases hfl with h | ⟨_, h⟩ <;> omega)
              obtain ⟨hv, hb⟩ := hseg.piece o (n * tsz P e) hlen
              by_cases hroom : n + m ≤ c'
              · -- in its place
                have hsz : o + δ + n * tsz P e + new'.length ≤ arr.size := by
                  have := Nat.mul_le_mul_right (tsz P e) hroom
                  rw [Nat.add_mul] at this
                  omega
                have run := run_append_in (P := P) (w := w) (ty := ty) ht hu he (some ⟨r, o + δ, none⟩) n c' x' m new' hx' (hsrc w rfl) hroom
                simp only [add_plain] at run
                rw [run_storeRow P w r (o + δ + n * tsz P e) new' arr tt fr hw hfr0 hsz n5] at run
                have hT := Turn.row (c' := splice arr (o + δ + n * tsz P e) new') hw
                have hss := splice_size arr _ new' hsz
                refine ⟨ρ.add H.next r (o + δ) z', _, _, run, ?_, ?_, ?_⟩
                · have := VR.slc (ρ := ρ.add H.next r (o + δ) z') (s := tsz P e) (o := 0) (n := n + m) (c := n + m + 1) (c' := c') Ren.add_self (by omega) (by omega) (by omega)
                  simpa using this
                · refine Rel.grow share hR hn e1 hg hw hT hss hz' hfr0 hfl ?_ ⟨?_, ?_⟩ ?_
                  · intro hs' i hi
                    have := hsh hs'
                    rw [splice_get _ _ _ hsz, if_pos (by omega)]
                  · intro i v hi
                    have hpl : ((cs.drop o).take (n * tsz P e)).length = n * tsz P e := by simp; omega
                    by_cases hlt : i < n * tsz P e
                    · rw [List.getElem?_append_left (by omega), List.getElem?_take, if_pos hlt, List.getElem?_drop] at hi
                      obtain ⟨v', e', q⟩ := hseg.1 _ _ hi
                      refine ⟨v', ?_, q.mono (Ren.le_add hn)⟩
                      rw [splice_get _ _ _ hsz, if_pos (by omega), ← e']
                      congr 1; omega
                    · rw [List.getElem?_append_right (by omega), hpl] at hi
                      obtain ⟨v', e', q⟩ := n2.get hi
                      refine ⟨v', ?_, q.mono (Ren.le_add hn)⟩
                      have : i - n * tsz P e < new'.length := by
                        rcases Nat.lt_or_ge (i - n * tsz P e) new'.length with h | h
                        · exact h
                        · rw [List.getElem?_eq_none h] at e'; simp at e'
                      rw [splice_get _ _ _ hsz, if_neg (by omega), if_pos (by omega), ← e']
                      congr 1; omega
                  · intro v hv
                    rcases List.mem_append.1 hv with hv | hv
                    · exact hone e1 v hv
                    · exact n3 v hv
                  · intro hs'
                    have := hsh hs'
                    simp; omega
                · have := Ext.grow (δ := o + δ) (z := z') (o := o) hn e1 hlim (hR.lt hg) hT
                  simpa using this
              · -- all anew
                refine fresh (by first | exact hn | exact hn (by simp)) (H.set b (bif share then .cells cs 1 else .dead)) (some ⟨r, o + δ, none⟩) n c' _ _ _ hf2 (hR.retire share hg) (by simp) hv (hone e1) (by simp; omega) hroom (fun w' hw' => ?_) hd
                simp only [Builtin.firstCells]
                exact run_cells P w' r (o + δ) (n * tsz P e) arr tt fr (by rw [hw']; exact hw) (by omega)
            · -- a capacity of zero
              have := fresh (by first | exact hn | exact hn (by simp)) (H.set b (bif share then .cells cs 1 else .dead)) (some a) 0 0 [] [] _ hf2 (hR.retire share hg) (by simp) .nil (by simp) (by simp) (by omega) (fun w' _ => by simp [Builtin.firstCells, loadCells, loadCellsFrom]) (by simpa using hd)
              simpa using this
    · simp at h

/-- A piece of a row is written. -/
theorem rowset (hR : Rel ρ H w) {b r δ z : Nat} {cs : List Value} (hb : ρ b = some (r, δ, z)) (hg : H.get b = some (.cells cs 0)) {lim : Nat} (hl : lim ≤ b) {l l' : List Value} (hv : VRs ρ l l') (h1 : ∀ v ∈ l, v.oneCell = true) {o size : Nat} (hs : l.length = size) (ho : o + size ≤ cs.length) :
    ∃ w', (storeCells ⟨r, o + δ, none⟩ l').run P w = .ok () w' ∧ Rel ρ (H.set b (.cells (cs.take o ++ l ++ cs.drop (o + size)) 0)) w' ∧ Ext lim H.next (H.set b (.cells (cs.take o ++ l ++ cs.drop (o + size)) 0)).next ρ ρ w w' := by
  obtain ⟨c, tt, fr, hw, hz, hsg, hf⟩ := hR.row hb hg
  have hfr := hf (by omega)
  have hll := hv.length
  obtain ⟨s1, s2⟩ := hsg.splice hv h1 hs ho
  by_cases h0 : size = 0
  · have e1 : l = [] := List.eq_nil_of_length_eq_zero (by omega)
    have e0 : l' = [] := List.eq_nil_of_length_eq_zero (by omega)
    have hsame : cs.take o ++ l ++ cs.drop (o + size) = cs := by rw [e1, h0]; simp
    refine ⟨w, by rw [e0]; rfl, ?_, Ext.refl _ _ _ _⟩
    rw [hsame]
    exact hR.set hb hg rfl rfl ⟨hw, fun _ _ _ => rfl, Nat.le_refl _, rfl, rfl, rfl⟩ ⟨hz, hsg, fun _ => hfr⟩ rfl
  · have hb2 : o + δ + l'.length ≤ c.size := by omega
    exact ⟨_, run_storeRow P w r (o + δ) l' c tt fr hw hfr hb2 (hv.one h1), hR.set hb hg rfl rfl (Turn.row hw) ⟨(splice_size c _ _ hb2).trans hz, s1, fun _ => hfr⟩ rfl, Ext.set hb hl (hR.lt hg) (Turn.row hw)⟩

theorem run_copy_of {t u ty e : TypeId} (ht : P.underlying t = some (.slice e)) (he : okT P e = true) (a : Option Addr) (n c : Nat) (x' : Value) (m : Nat) (l : List Value) {a2 : Option Addr} {c2 : Nat} (hx : x' = .slice a2 m c2)
    (hf : (Builtin.firstCells (tsz P e) (min m n) x').run P w = .ok l.toArray w) :
    (Builtin.copy_ #[t, u] ty #[.slice a n c, x']).run P w = (match a with | some a => (storeCells a l).run P w | none => .ok () w).andThen fun _ w => .ok (goInt (min m n : Nat)) w := by
  subst hx
  have hf : (Builtin.firstCells (tsz P e) (Nat.min m n) (.slice a2 m c2)).run P w = .ok l.toArray w := hf
  unfold Builtin.copy_
  cases a with
  | none => simp [run_underlying ht, run_size w he, Builtin.lenOf, hf]
  | some a => simp [run_underlying ht, run_size w he, Builtin.lenOf, hf]

theorem icopy_sim (hR : Rel ρ H w) {t u ty e : TypeId} (ht : P.underlying t = some (.slice e)) (he : okT P e = true) {lim m : Nat} {s s' x' v : Value} {new : List Value} {H' : IHeap}
    (h : icopy (tsz P e) lim H s m new = some (v, H')) (hs : VR ρ s s') (hx : SrcR ρ P w (tsz P e) m new x') :
    ∃ v' w', (Builtin.copy_ #[t, u] ty #[s', x']).run P w = .ok v' w' ∧ VR ρ v v' ∧ Rel ρ H' w' ∧ Ext lim H.next H'.next ρ ρ w w' := by
  obtain ⟨a2, c2, new', hx', n1, n2, n3, n4, n5, n6⟩ := hx.slc
  unfold icopy at h
  split at h
  · simp at h; obtain ⟨rfl, rfl⟩ := h
    cases hs with
    | nilslc =>
      refine ⟨_, w, ?_, .int _ _, hR, Ext.refl _ _ _ _⟩
      rw [run_copy_of ht he none 0 0 x' m _ hx' (n6 (min m 0) w rfl (Nat.min_le_left _ _))]
      simp [goInt]
  · rename_i b o sp n c
    have key : ∃ a c', s' = .slice (some a) n c' ∧ (n ≠ 0 → ∃ r δ z, ρ b = some (r, δ, z) ∧ a = ⟨r, o + δ, none⟩) := by
      rcases hs.slc_inv with ⟨r, δ, z, c', e1, rfl, h2, _⟩ | ⟨a, rfl, rfl, _⟩
      · exact ⟨_, _, rfl, fun _ => ⟨r, δ, z, e1, rfl⟩⟩
      · exact ⟨a, 0, rfl, fun q => absurd rfl q⟩
    obtain ⟨a, c', rfl, hb⟩ := key
    have run := run_copy_of (ty := ty) (u := u) ht he (some a) n c' x' m _ hx' (n6 (min m n) w rfl (Nat.min_le_left _ _))
    simp only at run
    cases h0 : min m n == 0 with
    | true =>
      simp [h0] at h
      simp only [beq_iff_eq] at h0
      obtain ⟨rfl, rfl⟩ := h
      refine ⟨_, w, ?_, .int _ _, hR, Ext.refl _ _ _ _⟩
      rw [run, h0]
      simp [storeCells, goInt]
    | false =>
      simp only [h0, cond_false] at h
      simp only [beq_eq_false_iff_ne] at h0
      obtain ⟨⟨cs, fl⟩, hc, h⟩ := Option.bind_eq_some_iff.1 h
      have hg := hcells_eq hc
      simp only at h
      by_cases hq : lim ≤ b ∧ fl = 0 ∧ o + n * tsz P e ≤ cs.length
      · obtain ⟨q1, rfl, q3⟩ := hq
        simp [q1, q3] at h
        obtain ⟨rfl, rfl⟩ := h
        obtain ⟨r, δ, z, e1, rfl⟩ := hb (by omega)
        have hmn : min m n * tsz P e ≤ m * tsz P e := Nat.mul_le_mul_right _ (Nat.min_le_left _ _)
        have hmn2 : min m n * tsz P e ≤ n * tsz P e := Nat.mul_le_mul_right _ (Nat.min_le_right _ _)
        obtain ⟨w', k1, k2, k3⟩ := rowset (P := P) hR e1 hg q1 (n2.take (min m n * tsz P e)) (fun v hv => n3 v (List.mem_of_mem_take hv)) (o := o) (size := min m n * tsz P e) (by simp; omega) (by omega)
        refine ⟨_, w', ?_, .int _ _, by simpa using k2, by simpa using k3⟩
        rw [run, k1]
        simp [goInt]
      · have : (!decide (lim ≤ b) || !(fl == 0) || !decide (o + n * tsz P e ≤ cs.length)) = true := by
          simp only [Bool.or_eq_true, Bool.not_eq_true', decide_eq_false_iff_not, beq_eq_false_iff_ne]
          by_cases a : lim ≤ b
          · by_cases b' : fl = 0
            · exact .inr fun q => hq ⟨a, b', q⟩
            · exact .inl (.inr b')
          · exact .inl (.inl a)
        simp only [this, cond_true] at h
        simp at h
  · simp at h

theorem iclear_sim (hR : Rel ρ H w) {t ty e : TypeId} (ht : P.underlying t = some (.slice e)) {zs : List Value} (hz : zcells P e = some zs) {lim : Nat} {s s' : Value} {H' : IHeap}
    (h : iclear zs lim H s = some H') (hs : VR ρ s s') :
    ∃ w', (Builtin.clear_ #[t] ty #[s']).run P w = .ok (.tuple #[]) w' ∧ Rel ρ H' w' ∧ Ext lim H.next H'.next ρ ρ w w' := by
  obtain ⟨z, z1, z2, z3, z4, he, z6, z7⟩ := zcells_sim hz
  have hzs : z.cells.size = tsz P e := by rw [← Array.length_toList, z2, z4]
  unfold iclear at h
  split at h
  · simp at h; subst h
    cases hs with
    | nilslc =>
      exact ⟨w, by unfold Builtin.clear_; simp [run_underlying ht], hR, Ext.refl _ _ _ _⟩
  · rename_i b o sp n c
    by_cases h0 : n = 0
    · subst h0
      simp at h; subst h
      refine ⟨w, ?_, hR, Ext.refl _ _ _ _⟩
      rcases hs.slc_inv with ⟨r, δ, z, c', e1, rfl, h2, _⟩ | ⟨a, rfl, _, _⟩
      · unfold Builtin.clear_; simp [run_underlying ht]
      · unfold Builtin.clear_; simp [run_underlying ht]
    · have h0' : (n == 0) = false := by simpa using h0
      simp only [h0', cond_false] at h
      obtain ⟨⟨cs, fl⟩, hc, h⟩ := Option.bind_eq_some_iff.1 h
      have hg := hcells_eq hc
      simp only at h
      by_cases hq : lim ≤ b ∧ fl = 0 ∧ o + n * zs.length ≤ cs.length
      · obtain ⟨q1, rfl, q3⟩ := hq
        simp [q1, q3] at h
        subst h
        rcases hs.slc_inv with ⟨r, δ, z', c', e1, rfl, h2, _⟩ | ⟨a, rfl, hn, _⟩
        · obtain ⟨w', k1, k2, k3⟩ := rowset (P := P) hR e1 hg q1 ((z6 ρ).rep n) (fun v hv => by
            simp only [List.mem_flatten, List.mem_replicate] at hv
            obtain ⟨l, ⟨_, rfl⟩, hv⟩ := hv
            exact z3 v hv) (o := o) (size := n * zs.length) (flatten_rep n zs) q3
          refine ⟨w', ?_, by simpa using k2, by simpa using k3⟩
          have e2 : (Builtin.zeroCells z.cells n).toList = (List.replicate n zs).flatten := by
            unfold Builtin.zeroCells
            rw [rep_range, z2]
          unfold Builtin.clear_
          cases n with
          | zero => exact absurd rfl h0
          | succ n => simp [run_underlying ht, run_zero w z1, e2, k1]
        · exact absurd hn h0
      · have : (!decide (lim ≤ b) || !(fl == 0) || !decide (o + n * zs.length ≤ cs.length)) = true := by
          simp only [Bool.or_eq_true, Bool.not_eq_true', decide_eq_false_iff_not, beq_eq_false_iff_ne]
          by_cases a : lim ≤ b
          · by_cases b' : fl = 0
            · exact .inr fun q => hq ⟨a, b', q⟩
            · exact .inl (.inr b')
          · exact .inl (.inl a)
        simp only [this, cond_true] at h
        simp at h
  · simp at h
end Go.Ideal
/- The ideal machine, part P: maps. -/
namespace Go.Ideal
variable {ρ : Ren} {H : IHeap} {w : World} {P : Program}

/-- A key type, as keyTy tells it. -/
theorem keyTy_cases {kt : TypeId} {ag : Nat} (h : keyTy P kt = some ag) : (ag = 0 ∧ P.underlying kt = some (.int .i64)) ∨ ∃ bs, flatTy P kt = some bs ∧ (∀ b ∈ bs, b = false) ∧ ag = bs.length + 1 := by
  unfold keyTy at h
  split at h
  · rename_i hu; simp at h; exact .inl ⟨h.symm, hu⟩
  · obtain ⟨l, hl, h⟩ := Option.bind_eq_some_iff.1 h
    cases ha : l.all (!·) with
    | false => simp [ha] at h
    | true => simp [ha] at h; exact .inr ⟨l, hl, by simpa using ha, h.symm⟩

theorem flat_eq : ∀ {a : List Value} {l : List Int}, flat a = some l → a = l.map (Value.int .i64)
  | [], l, h => by simp [flat] at h; subst h; rfl
  | .int k n :: a, l, h => by
    cases k <;> try (simp [flat] at h; done)
    simp only [flat] at h
    obtain ⟨b, hb, h⟩ := Option.bind_eq_some_iff.1 h
    simp at h; subst h
    simp [flat_eq hb]
  | .bool _ :: a, l, h => by simp [flat] at h
  | .float _ _ :: a, l, h => by simp [flat] at h
  | .complex _ _ _ :: a, l, h => by simp [flat] at h
  | .string _ :: a, l, h => by simp [flat] at h
  | .pointer _ :: a, l, h => by simp [flat] at h
  | .slice _ _ _ :: a, l, h => by simp [flat] at h
  | .map _ :: a, l, h => by simp [flat] at h
  | .chan _ :: a, l, h => by simp [flat] at h
  | .func _ _ _ :: a, l, h => by simp [flat] at h
  | .nilFunc :: a, l, h => by simp [flat] at h
  | .iface _ _ :: a, l, h => by simp [flat] at h
  | .nilIface :: a, l, h => by simp [flat] at h
  | .agg _ :: a, l, h => by simp [flat] at h
  | .tuple _ :: a, l, h => by simp [flat] at h

theorem VRs.ints {l : List Int} {m : List Value} (h : VRs ρ (l.map (Value.int .i64)) m) : m = l.map (Value.int .i64) := by
  induction l generalizing m with
  | nil => cases h; rfl
  | cons a l ih => cases h with | cons x y => cases x; simp [ih y]

theorem ikey_sim {ag : Nat} {k k' : Value} {l : List Int} (h : ikey ag k = some l) (hk : VR ρ k k') : k' = mkKey ag l ∧ l.length = keyLen ag := by
  unfold ikey at h
  split at h
  · split at h
    · simp at h; subst h; cases hk; exact ⟨rfl, rfl⟩
    · simp at h
  · rename_i n
    split at h
    · rename_i a
      obtain ⟨a⟩ := a
      cases hl : a.length == n with
      | false => simp [hl] at h
      | true =>
        simp only [hl, cond_true] at h
        simp only [beq_iff_eq] at hl
        have := flat_eq h
        subst this
        cases hk with
        | agg hk _ =>
          have := hk.ints
          subst this
          exact ⟨rfl, by simpa [keyLen] using hl⟩
    · simp at h

/-- Two keys of one type, compared. -/
theorem flatEq_ints : ∀ (bs : List Bool), (∀ b ∈ bs, b = false) → ∀ (l m : List Int), l.length = bs.length → m.length = bs.length → flatEq bs (l.map (Value.int .i64)) (m.map (Value.int .i64)) = some (l == m)
  | [], _, [], [], _, _ => rfl
  | b :: bs, hb, a :: l, c :: m, h1, h2 => by
    have := hb b (by simp); subst this
    have ih := flatEq_ints bs (fun b h => hb b (by simp [h])) l m (by simpa using h1) (by simpa using h2)
    simp only [List.map_cons, flatEq, ih]
    simp
  | [], _, _ :: _, _, h, _ => by simp at h
  | [], _, [], _ :: _, _, h => by simp at h
  | _ :: _, _, [], _, h, _ => by simp at h
  | _ :: _, _, _ :: _, [], _, h => by simp at h

/-- A key that is whole. -/
def KeyOK (P : Program) (kt : TypeId) (ag : Nat) : Prop := keyTy P kt = some ag

theorem run_checkKey_one {u : TypeId} {b : Bool} (h : oneTy P u = some b) (em : Bool) (n : Nat) (x : Value) : (Instr.checkKey em (n + 1) u x).run P w = .ok () w := by
  obtain ⟨_, _, _, h4, h5⟩ := oneTy_sz h
  cases b
  · simp [Instr.checkKey, run_underlying (h4 rfl)]
  · simp [Instr.checkKey, run_underlying (h5 rfl)]

theorem flatFields_each : ∀ (fs : List Field) (i : Nat) (bs : List Bool), flatFields P fs i = some bs → ∀ f ∈ fs, ∃ b, oneTy P f.type = some b ∧ i ≤ f.offset ∧ f.offset < i + bs.length
  | [], _, _, _, _, hm => by simp at hm
  | g :: fs, i, bs, hf, f, hm => by
    simp only [flatFields] at hf
    cases hc : g.offset == i && g.name != "_" with
    | false => simp [hc] at hf
    | true =>
      simp only [hc, cond_true] at hf
      obtain ⟨b, hb, hf⟩ := Option.bind_eq_some_iff.1 hf
      obtain ⟨l, hl, hf⟩ := Option.bind_eq_some_iff.1 hf
      simp at hf hc; subst hf
      rcases List.mem_cons.1 hm with rfl | hm
      · exact ⟨b, hb, by omega, by simp; omega⟩
      · obtain ⟨b', h1, h2, h3⟩ := flatFields_each fs (i + 1) l hl f hm
        exact ⟨b', h1, by omega, by simp; omega⟩

theorem checkKey_sim {kt : TypeId} {ag : Nat} (h : keyTy P kt = some ag) {l : List Int} (hl : l.length = keyLen ag) (em : Bool) : (Instr.checkKey em 10000 kt (mkKey ag l)).run P w = .ok () w := by
  rcases keyTy_cases h with ⟨rfl, hu⟩ | ⟨bs, hf, _, rfl⟩
  · show (Instr.checkKey em (9999 + 1) kt _).run P w = _
    generalize 9999 = d
    simp [Instr.checkKey, mkKey, run_underlying hu]
  · show (Instr.checkKey em (9998 + 1 + 1) kt (.agg ⟨l.map (Value.int .i64)⟩)).run P w = _
    generalize 9998 = d
    simp only [keyLen] at hl
    unfold flatTy at hf
    split at hf
    · rename_i fields hu
      cases hc : P.stoodInHeld kt || fields.size == 0 with
      | true => simp [hc] at hf
      | false =>
        simp only [hc, cond_false] at hf
        have each := flatFields_each _ _ _ hf
        rw [Instr.checkKey]
        simp only [Sem.run_bind, run_underlying hu, Result.andThen_ok]
        rw [← Array.forIn_toList]
        generalize fields.toList = fs at each
        clear hf hc hu
        induction fs with
        | nil => simp
        | cons f fs ih =>
          obtain ⟨b, hb, h1, h2⟩ := each f (by simp)
          have hx : (⟨l.map (Value.int .i64)⟩ : Array Value)[f.offset]? = some (.int .i64 (l[f.offset]'(by omega))) := by simp
          have e1 := run_part1 (w := w) hb _ _ _ hx
          have e2 := run_checkKey_one (P := P) (w := w) hb em d (.int .i64 (l[f.offset]'(by omega)))
          by_cases hn : f.name = "_"
          · simp only [List.forIn_cons, Sem.run_bind, hn, ne_eq, not_true_eq_false, if_false, Result.andThen_ok, Sem.run_pure]
            exact ih fun g hg => each g (by simp [hg])
          · simp only [List.forIn_cons, Sem.run_bind, hn, ne_eq, not_false_eq_true, if_true, Result.andThen_ok, Sem.run_pure, e1, e2]
            exact ih fun g hg => each g (by simp [hg])
    · rename_i n e hu
      cases hn : n == 0 with
      | true => simp [hn] at hf
      | false =>
        simp only [hn, cond_false] at hf
        obtain ⟨b, hb, hf⟩ := Option.bind_eq_some_iff.1 hf
        simp at hf; subst hf
        simp at hl
        obtain ⟨h1, h2, h3, _⟩ := oneTy_sz hb
        rw [Instr.checkKey]
        simp only [Sem.run_bind, run_underlying hu, Result.andThen_ok]
        simp only [Std.Legacy.Range.forIn_eq_forIn_range', Std.Legacy.Range.size, Nat.sub_zero, Nat.add_one_sub_one, Nat.div_one]
        have each : ∀ j ∈ List.range' 0 n, j < l.length := by intro j hj; simp at hj; omega
        generalize List.range' 0 n = is at each
        induction is with
        | nil => simp
        | cons j is ih =>
          have hj := each j (by simp)
          have hx : (⟨l.map (Value.int .i64)⟩ : Array Value)[j * 1]? = some (.int .i64 (l[j])) := by simp [hj]
          have e1 := run_part1 (w := w) hb _ _ _ hx
          have e2 := run_checkKey_one (P := P) (w := w) hb em d (.int .i64 (l[j]))
          have e3 := run_size w h3
          rw [h1] at e3
          simp only [List.forIn_cons, Sem.run_bind, e3, Result.andThen_ok, Sem.run_pure, e1, e2]
          exact ih fun g hg => each g (by simp [hg])
    · simp at hf

/-- Where a key stands among entries. -/
def at? (l : List Int) : List Ent → Nat → Option (Nat × Value × Nat)
  | [], _ => none
  | (k, v, n) :: r, i => bif k == l then some (i, v, n) else at? l r (i + 1)

theorem ifind_at (l : List Int) : ∀ (es : List Ent) (i : Nat), ifind l es = (at? l es i).map fun x => (x.2.1, x.2.2)
  | [], _ => rfl
  | (k, v, n) :: r, i => by
    cases h : k == l with
    | true => simp [ifind, at?, h]
    | false => simp [ifind, at?, h, ifind_at l r (i + 1)]

theorem mkKey_eq {kt : TypeId} {ag : Nat} (h : keyTy P kt = some ag) {l m : List Int} (hl : l.length = keyLen ag) (hm : m.length = keyLen ag) : (Op.equal kt (mkKey ag l) (mkKey ag m)).run P w = .ok (l == m) w := by
  rcases keyTy_cases h with ⟨rfl, hu⟩ | ⟨bs, hf, hb, rfl⟩
  · simp only [keyLen] at hl hm
    match l, hl, m, hm with
    | [a], _, [b], _ =>
      have := run_equalIn_int w 9999 kt .i64 .i64 a b hu
      have e : (([a] : List Int) == [b]) = (a == b) := by simp
      rw [e]; exact this
  · simp only [keyLen] at hl hm
    have := eq_flat (P := P) (w := w) 9998 hf ⟨l.map (Value.int .i64)⟩ ⟨m.map (Value.int .i64)⟩ (flatEq_ints bs hb l m hl hm)
    exact this

theorem findKey_sim {kt : TypeId} {ag : Nat} (h : keyTy P kt = some ag) {l : List Int} (hl : l.length = keyLen ag) {es : List Ent} {fs : List MapEntry} (hE : ER ρ ag es fs) :
    ((Instr.findKey kt (mkKey ag l) fs).run P w = .ok none w ∧ at? l es 0 = none) ∨
    ∃ i v v' n, (Instr.findKey kt (mkKey ag l) fs).run P w = .ok (some (i, v')) w ∧ at? l es 0 = some (i, v, n) ∧ VR ρ v v' := by
  have asking : ∀ (es : List Ent) (fs : List MapEntry) (i : Nat), ER ρ ag es fs → ((Instr.findAsking kt (mkKey ag l) fs i).run P w = .ok none w ∧ at? l es i = none) ∨
      ∃ j v v' n, (Instr.findAsking kt (mkKey ag l) fs i).run P w = .ok (some (j, v')) w ∧ at? l es i = some (j, v, n) ∧ VR ρ v v' := by
    intro es fs i hE
    induction hE generalizing i with
    | nil => exact .inl ⟨by simp [Instr.findAsking], rfl⟩
    | @cons k v v' n es fs hk hv _ ih =>
      have e := mkKey_eq (P := P) (w := w) h hl hk
      cases hq : l == k with
      | true =>
        have : (k == l) = true := by simp at hq ⊢; exact hq.symm
        exact .inr ⟨i, v, v', n, by simp [Instr.findAsking, e, hq], by simp [at?, this], hv⟩
      | false =>
        have : (k == l) = false := by
          simp at hq ⊢; exact fun q => hq q.symm
        rcases ih (i + 1) with ⟨h1, h2⟩ | ⟨j, v, v', n, h1, h2, h3⟩
        · exact .inl ⟨by simp [Instr.findAsking, e, hq, h1], by simp [at?, this, h2]⟩
        · exact .inr ⟨j, v, v', n, by simp [Instr.findAsking, e, hq, h1], by simp [at?, this, h2], h3⟩
  rcases keyTy_cases h with ⟨rfl, hu⟩ | ⟨bs, hf, hb, rfl⟩
  · -- numbers are found at once
    have now : ∀ (es : List Ent) (fs : List MapEntry) (i : Nat), ER ρ 0 es fs → (Instr.findNow (.int .i64) (mkKey 0 l) fs i = some none ∧ at? l es i = none) ∨
        ∃ j v v' n, Instr.findNow (.int .i64) (mkKey 0 l) fs i = some (some (j, v')) ∧ at? l es i = some (j, v, n) ∧ VR ρ v v' := by
      intro es fs i hE
      induction hE generalizing i with
      | nil => exact .inl ⟨by simp [Instr.findNow], rfl⟩
      | @cons k v v' n es fs hk hv _ ih =>
        simp only [keyLen] at hl hk
        match l, hl, k, hk with
        | [a], _, [b], _ =>
          by_cases hq : a = b
          · subst hq
            exact .inr ⟨i, v, v', n, by simp [Instr.findNow, mkKey, Instr.sameNow], by simp [at?], hv⟩
          · have hq1 : (a == b) = false := by simpa using hq
            have hq2 : (([b] : List Int) == [a]) = false := by simp; exact fun q => hq q.symm
            rcases ih (i + 1) with ⟨h1, h2⟩ | ⟨j, v, v', n, h1, h2, h3⟩
            · exact .inl ⟨by simpa [Instr.findNow, mkKey, Instr.sameNow, hq1] using h1, by simp [at?, hq2, h2]⟩
            · exact .inr ⟨j, v, v', n, by simpa [Instr.findNow, mkKey, Instr.sameNow, hq1] using h1, by simp [at?, hq2, h2], h3⟩
    rcases now es fs 0 hE with ⟨h1, h2⟩ | ⟨j, v, v', n, h1, h2, h3⟩
    · exact .inl ⟨by simp [Instr.findKey, run_underlying hu, h1], h2⟩
    · exact .inr ⟨j, v, v', n, by simp [Instr.findKey, run_underlying hu, h1], h2, h3⟩
  · have hnow : ∀ k, (P.underlying kt = some k) → fs = [] ∨ Instr.findNow k (mkKey (bs.length + 1) l) fs 0 = none := by
      intro k hk
      cases hE with
      | nil => exact .inl rfl
      | cons _ _ _ => right; cases k <;> simp [Instr.findNow, Instr.sameNow, mkKey]
    obtain ⟨k, hk⟩ : ∃ k, P.underlying kt = some k := by
      cases hk : P.underlying kt with
      | some k => exact ⟨k, rfl⟩
      | none => simp [flatTy, hk] at hf
    rcases hnow k hk with rfl | hn
    · cases hE
      exact .inl ⟨by simp [Instr.findKey, run_underlying hk, Instr.findNow], rfl⟩
    · have := asking es fs 0 hE
      simpa [Instr.findKey, run_underlying hk, hn] using this

end Go.Ideal
