import PyProof.Rows.All
import Wide.All
import OpenK.AllK
import Wide.FinOn
import KE.KStateDown
import HandS.Head0
import HandS.Head1
import HandS.Head2
import HandS.HeadEnd
import HandS.HeadHook1
import HandS.Words
import HandS.ForMost
import HandS.TupAny
import HandS.Style
import HandS.List
import HandS.Exc
import HandS.ExcOwn
import HandS.TryOnly
import HandS.WordsExc
import HandS.IsInst
import HandS.Conv
import HandS.Flow
import HandS.Wide
import HandS.WideBits
import HandS.Codes
import HandS.Zip
import HandS.CallSlots
import HandS.TupMul
import HandS.Deep
import HandS.TupLe
import KE.GoesMore
import PyProof.EnumMake
import HandS.ExcIs
import HandS.TryMany
import PyProof.ExcBaseAll.ValueError
import HandS.EndBits
import PySem.Challenge.RW_longrank_k23_changes_of_domain_and_more
set_option Elab.async false
set_option linter.all false
set_option maxRecDepth 100000
set_option maxHeartbeats 4000000
set_option autoImplicit false
set_option exponentiation.threshold 20000
namespace Lg
/-! ### values -/
/-- a value: fn: a def of the module; scr: a list that never changes any more; fro: a list that came from outside; ref: a list in the store; obj: an instance in the store -/
inductive D where
  | non | bl (b : Bool) | int (i : Int) | str (s : String)
  | tup (xs : List D) | scr (xs : List D) | fro (xs : List D) | ref (l : Nat) | fn (x : String) | obj (l : Nat)
  deriving Inhabited
mutual
def same : D → D → Bool
  | .non, .non => true
  | .bl a, .bl b => a == b
  | .int a, .int b => a == b
  | .str a, .str b => a == b
  | .tup a, .tup b => sames a b
  | .scr a, .scr b => sames a b
  | .fro a, .fro b => sames a b
  | .ref a, .ref b => a == b
  | .fn a, .fn b => a == b
  | .obj a, .obj b => a == b
  | _, _ => false
def sames : List D → List D → Bool
  | [], [] => true
  | x :: xs, y :: ys => same x y && sames xs ys
  | _, _ => false
end
mutual
theorem same_refl : ∀ a : D, same a a = true
  | .non | .bl _ | .int _ | .str _ | .ref _ | .fn _ | .obj _ => by simp [same]
  | .tup a | .scr a | .fro a => by simp [same, sames_refl a]
theorem sames_refl : ∀ a : List D, sames a a = true
  | [] => by simp [sames]
  | x :: xs => by simp [sames, same_refl x, sames_refl xs]
end
mutual
theorem same_eq : ∀ a b : D, same a b = true → a = b := fun a b h => by
  cases a <;> cases b <;> simp only [same, Bool.false_eq_true, beq_iff_eq] at h <;> first
    | rfl
    | (rw [h])
    | (exact congrArg _ (sames_eq _ _ h))
theorem sames_eq : ∀ a b : List D, sames a b = true → a = b
  | [], [], _ => rfl
  | x :: xs, y :: ys, h => by
    simp only [sames, Bool.and_eq_true] at h
    rw [same_eq x y h.1, sames_eq xs ys h.2]
  | [], _ :: _, h => by simp [sames] at h
  | _ :: _, [], h => by simp [sames] at h
end
instance : DecidableEq D := fun a b => if h : same a b = true then isTrue (same_eq a b h) else isFalse fun e => h (e ▸ same_refl a)
/-- ins: an instance: its class, the names of its fields in the order in which they are set, those that are set -/
inductive Cell where
  | lst (xs : List D) | ins (C : String) (ns : List String) (ds : List D)
  deriving Inhabited, DecidableEq
abbrev Store := List Cell
abbrev Env := List (Option D)
inductive Out (α : Type) where
  | ok (a : α) (st : Store) | exc (c : String) (st : Store) | bad
def Out.bind {α β : Type} (r : Out α) (f : α → Store → Out β) : Out β := match r with
  | .ok a st => f a st
  | .exc c st => .exc c st
  | .bad => .bad
@[simp] theorem bind_ok {α β : Type} (a : α) (st : Store) (f : α → Store → Out β) : (Out.ok a st).bind f = f a st := rfl
@[simp] theorem bind_exc {α β : Type} (c : String) (st : Store) (f : α → Store → Out β) : (Out.exc c st).bind f = .exc c st := rfl
@[simp] theorem bind_bad {α β : Type} (f : α → Store → Out β) : (Out.bad : Out α).bind f = .bad := rfl
/-! ### the syntax -/
inductive Bop where
  | add | sub | mul | fdiv | mod | pow | shl
  deriving DecidableEq, Inhabited
inductive Cop where
  | eq | ne | lt | le | gt | ge | is | isNot | isin | notIn
  deriving DecidableEq, Inhabited
inductive Prim where
  | len | abs | min2 | max2 | min1 | max1 | sum | any | all | int | tuple | list (m : Bool) | sorted | anyT
  deriving DecidableEq, Inhabited
inductive Ty where
  | int | bool | tuple | str | list
  deriving DecidableEq, Inhabited
inductive Meth where
  | append | pop | extend | bitLength | index
  deriving DecidableEq, Inhabited
mutual
inductive E where
  | non | bl (b : Bool) | int (i : Int) | str (s : String)
  | var (i : Nat) | glob (x : String) | con (d : D)
  | bin (op : Bop) (a b : E) | neg (a : E) | not (a : E)
  | cmp (op : Cop) (a b : E) | chain (p q : Cop) (a b c : E) | chain3 (p q r : Cop) (a b c d : E)
  | and (a b : E) | or (a b : E) | ite (c a b : E)
  | call (f : String) (as : Es) | prim (p : Prim) (as : Es) | isi (t : Ty) (a : E) | isi2 (t u : Ty) (a : E)
  | ix (a i : E) | slice (a : E) (lo hi : Eo)
  | tup (as : Es) | lst (m : Bool) (as : Es)
  | comp (m : Bool) (own : List Nat) (elt : E) (tg : Tg) (it : It) (c : Eo)
  | compx (m : Bool) (own : List Nat) (elt : E) (tg : Tg) (it : It) (c : Eo)
  | lrange (m : Bool) (lo hi : E) | lrep (a b : E)
  | meth (m : Meth) (o : E) (as : Es)
  | ladd (a b : E) | rev (a : E) | fnv (x : String) | callv (i : Nat) (fs : List String) (as : Es)
  | fld (o : E) (f : String) | mk (c : String) (as : Es) | mcall (o : E) (c m : String) (as : Es)
inductive Es where
  | nil | cons (e : E) (es : Es)
inductive Eo where
  | none | some (e : E)
inductive It where
  | seq (e : E) | rng1 (a : E) | rng2 (a b : E) | rng3 (a b c : E) | enum (e : E) | zip (a b : E)
inductive Tg where
  | nm (i : Nat) | tp (ts : Tgs) | ix (a i : E)
inductive Tgs where
  | nil | cons (t : Tg) (ts : Tgs)
end
/-- what is asked of a caught error: isinstance with one class or more -/
inductive HE where
  | isx (cs : List String) | hnot (a : HE) | hand (a b : HE)
/-- what a named clause returns -/
inductive HR where
  | b (h : HE) | lb (s : String) (h : HE)
mutual
inductive S where
  | assign (t : Tg) (e : E) | par2 (i j : Nat) (a b : E)
  | aug (i : Nat) (op : Bop) (e : E)
  | setf (o : E) (f : String) (e : E) | augf (o : E) (f : String) (op : Bop) (e : E) | augi (o i : E) (op : Bop) (e : E)
  | expr (e : E) | ret (e : E) | ret0
  | ite (c : E) (a b : Ss) | while (c : E) (b : Ss) | for (t : Tg) (it : It) (b : Ss)
  | pass | brk | cont
  | stop | raise (c : String) | tryx (b : Ss) (c : String) (h : Ss) | trym (b : Ss) (hs : Hs)
inductive Ss where
  | nil | cons (s : S) (ss : Ss)
/-- except clauses -/
inductive Hs where
  | nil | plain (c : String) (h : Ss) (r : Hs) | named (c : String) (i : Nat) (x : HR) (r : Hs) | named2 (c : String) (i j : Nat) (s : String) (a b : HE) (r : Hs)
end
instance : Inhabited E := ⟨.non⟩
instance : Inhabited S := ⟨.pass⟩
structure Fn where
  n : Nat
  ps : Nat
  body : Ss
/-- a class: the names of its fields, its __init__, its methods -/
structure CI where
  ns : List String
  init : String
  ms : List (String × String)
structure Pg where
  fn : String → Option Fn
  gl : String → Option D
  ci : String → Option CI
/-! ### operations on values -/
def sizeLine : Nat := 16777216
def bitsLine : Nat := 134217728
def bits (i : Int) : Nat := if i = 0 then 0 else i.natAbs.log2 + 1
def limbs (i : Int) : Nat := if i = 0 then 0 else i.natAbs.log2 / 30 + 1
def divOk (i j : Int) : Bool := !(decide (limbs j > 300) && decide (limbs i > limbs j + 150))
open Classical in
/-- is it so? (never evaluated) -/
noncomputable def chk (p : Prop) : Bool := decide p
theorem chk_iff {p : Prop} : chk p = true ↔ p := by unfold chk; exact @decide_eq_true_iff p (Classical.propDecidable p)
def listOf (st : Store) : D → Option (List D)
  | .scr xs => some xs
  | .fro xs => some xs
  | .ref l => match st[l]? with
    | some (.lst xs) => some xs
    | _ => none
  | _ => none
def seqOf (st : Store) : D → Option (List D)
  | .tup xs => some xs
  | d => listOf st d
/-- without references -/
def rd (st : Store) : Nat → D → Option D
  | _, .non => some .non
  | _, .bl b => some (.bl b)
  | _, .int i => some (.int i)
  | _, .str s => some (.str s)
  | _, .fn _ => none
  | _, .obj _ => none
  | 0, _ => none
  | n + 1, .tup xs => (xs.mapM (rd st n)).map .tup
  | n + 1, .scr xs => (xs.mapM (rd st n)).map .scr
  | n + 1, .fro xs => (xs.mapM (rd st n)).map .scr
  | n + 1, .ref l => match st[l]? with
    | some (.lst xs) => (xs.mapM (rd st n)).map .scr
    | _ => none
mutual
/-- == of values without references -/
def deq : D → D → Bool
  | .non, .non => true
  | .bl a, .bl b => a == b
  | .bl a, .int j => (if a then 1 else 0) == j
  | .int i, .bl b => i == (if b then 1 else 0)
  | .int i, .int j => i == j
  | .str x, .str y => x == y
  | .scr xs, .scr ys => deqs xs ys
  | .tup xs, .tup ys => deqs xs ys
  | _, _ => false
def deqs : List D → List D → Bool
  | [], [] => true
  | x :: xs, y :: ys => deq x y && deqs xs ys
  | _, _ => false
end
def flat : D → Bool
  | .non | .bl _ | .int _ | .str _ => true
  | _ => false
/-- a def, or an instance: no isinstance is asked of it -/
def noTy (st : Store) : D → Bool
  | .fn _ => true
  | .obj _ => true
  | .ref l => match st[l]? with
    | some (.ins _ _ _) => true
    | _ => false
  | _ => false
def isNon : D → Bool
  | .non => true
  | _ => false
def truth (st : Store) : D → Option Bool
  | .non => some false
  | .bl b => some b
  | .int i => some (i != 0)
  | .str _ => none
  | .tup xs => some (!xs.isEmpty)
  | d => (listOf st d).map fun xs => !xs.isEmpty
def ixN (n : Nat) (i : Int) : Option Nat := if 0 ≤ i then (if i < n then some i.toNat else none) else if -(n : Int) ≤ i then some (i + n).toNat else none
def atI {α : Type} (xs : List α) (i : Int) : Option α := (ixN xs.length i).bind fun j => xs[j]?
def sIx (n d : Nat) : Option Int → Nat
  | none => d
  | some v => if v < 0 then (v + n).toNat else min v.toNat n
def cut {α : Type} (xs : List α) (lo hi : Option Int) : List α := (xs.drop (sIx xs.length 0 lo)).take (sIx xs.length xs.length hi - sIx xs.length 0 lo)
noncomputable def bop (op : Bop) (x y : D) (st : Store) : Out D := match op, x, y with
  | .add, .int i, .int j => .ok (.int (i + j)) st
  | .add, .tup xs, .tup ys => if xs.length + ys.length ≤ sizeLine then .ok (.tup (xs ++ ys)) st else .bad
  | .add, .scr xs, .scr ys => if xs.length + ys.length ≤ sizeLine then .ok (.scr (xs ++ ys)) st else .bad
  | .sub, .int i, .int j => .ok (.int (i - j)) st
  | .mul, .int i, .int j => if bits i + bits j ≤ bitsLine then .ok (.int (i * j)) st else .bad
  | .mul, .scr xs, .int k => if chk (0 ≤ k ∧ xs.length * k.toNat ≤ sizeLine ∧ k < 2 ^ 62) = true then .ok (.scr (List.replicate k.toNat xs).flatten) st else .bad
  | .mul, .tup xs, .int k => if chk (-1000 ≤ k ∧ k ≤ 1000 ∧ xs.length ≤ 1000) = true then .ok (.tup (List.replicate k.toNat xs).flatten) st else .bad
  | .fdiv, .int i, .int j => if j ≠ 0 ∧ divOk i j = true then .ok (.int (i.fdiv j)) st else .bad
  | .mod, .int i, .int j => if j ≠ 0 then .ok (.int (i.fmod j)) st else .bad
  | .pow, .int i, .int j => if chk (0 ≤ j ∧ j ≤ 1000000 ∧ i.natAbs < 2 ^ 64) = true then .ok (.int (i ^ j.toNat)) st else .bad
  | .shl, .int i, .int j => if chk (0 ≤ j ∧ j ≤ 1000000 ∧ i.natAbs < 2 ^ 64) = true then .ok (.int (i * 2 ^ j.toNat)) st else .bad
  | _, _, _ => .bad
/-- a list that may be changed, out of a list any number of times -/
noncomputable def mrep (x y : D) (st : Store) : Out D := match x, y with
  | .scr xs, .int k => if chk (0 ≤ k ∧ xs.length * k.toNat ≤ sizeLine ∧ k < 2 ^ 62) = true then .ok (.ref st.length) (st ++ [.lst (List.replicate k.toNat xs).flatten]) else .bad
  | _, _ => .bad
/-- the items of a list that is made here -/
def ownL (st : Store) : D → Option (List D)
  | .scr xs => some xs
  | .ref l => match st[l]? with
    | some (.lst xs) => some xs
    | _ => none
  | _ => none
/-- a list that may be changed, out of two lists -/
def madd (x y : D) (st : Store) : Out D := match ownL st x, ownL st y with
  | some xs, some ys => if xs.length + ys.length ≤ sizeLine then .ok (.ref st.length) (st ++ [.lst (xs ++ ys)]) else .bad
  | _, _ => .bad
/-- x op= y of intsD -/
def iop (op : Bop) (x y : D) (st : Store) : Out D := match op, x, y with
  | .add, .int i, .int j => .ok (.int (i + j)) st
  | .sub, .int i, .int j => .ok (.int (i - j)) st
  | .mul, .int i, .int j => if bits i + bits j ≤ bitsLine then .ok (.int (i * j)) st else .bad
  | .fdiv, .int i, .int j => if j ≠ 0 ∧ divOk i j = true then .ok (.int (i.fdiv j)) st else .bad
  | .mod, .int i, .int j => if j ≠ 0 then .ok (.int (i.fmod j)) st else .bad
  | _, _, _ => .bad
def cop (op : Cop) (x y : D) (st : Store) : Out D := match op with
  | .eq => match rd st 40 x, rd st 40 y with
    | some a, some b => .ok (.bl (deq a b)) st
    | _, _ => .bad
  | .ne => match rd st 40 x, rd st 40 y with
    | some a, some b => .ok (.bl (!deq a b)) st
    | _, _ => .bad
  | .lt => match x, y with
    | .int i, .int j => .ok (.bl (decide (i < j))) st
    | _, _ => .bad
  | .le => match x, y with
    | .int i, .int j => .ok (.bl (decide (i ≤ j))) st
    | _, _ => .bad
  | .gt => match x, y with
    | .int i, .int j => .ok (.bl (decide (j < i))) st
    | _, _ => .bad
  | .ge => match x, y with
    | .int i, .int j => .ok (.bl (decide (j ≤ i))) st
    | _, _ => .bad
  | .is => match y with
    | .non => .ok (.bl (isNon x)) st
    | .bl b => match x with
      | .bl a => .ok (.bl (decide (a = b))) st
      | _ => .bad
    | _ => .bad
  | .isNot => match y with
    | .non => .ok (.bl (!isNon x)) st
    | .bl b => match x with
      | .bl a => .ok (.bl (!decide (a = b))) st
      | _ => .bad
    | _ => .bad
  | .isin => match seqOf st y with
    | some ys => if flat x && ys.all flat then .ok (.bl (ys.any fun y => deq y x)) st else match rd st 40 x, rd st 40 y with
      | some a, some (.scr zs) => .ok (.bl (zs.any fun z => deq z a)) st
      | some a, some (.tup zs) => .ok (.bl (zs.any fun z => deq z a)) st
      | _, _ => .bad
    | none => .bad
  | .notIn => match seqOf st y with
    | some ys => if flat x && ys.all flat then .ok (.bl (!(ys.any fun y => deq y x))) st else match rd st 40 x, rd st 40 y with
      | some a, some (.scr zs) => .ok (.bl (!(zs.any fun z => deq z a))) st
      | _, _ => .bad
    | none => .bad
def isTy (st : Store) : Ty → D → Bool
  | .int, .int _ => true
  | .int, .bl _ => true
  | .bool, .bl _ => true
  | .tuple, .tup _ => true
  | .str, .str _ => true
  | .list, .scr _ => true
  | .list, .fro _ => true
  | .list, .ref _ => true
  | _, _ => false
def intsD : List D → Option (List Int)
  | [] => some []
  | .int i :: r => (intsD r).map (i :: ·)
  | _ :: _ => none
def bools : List D → Option (List Bool)
  | [] => some []
  | .bl b :: r => (bools r).map (b :: ·)
  | _ :: _ => none
/-- a new list: a cell, or one that never changes -/
def newList (m : Bool) (xs : List D) (st : Store) : Out D :=
  if m then .ok (.ref st.length) (st ++ [.lst xs]) else .ok (.scr xs) st
def maxOf : List Int → Int
  | [] => 0
  | [x] => x
  | x :: y :: r => let m := maxOf (y :: r); if x < m then m else x
def minOf : List Int → Int
  | [] => 0
  | [x] => x
  | x :: y :: r => let m := minOf (y :: r); if m < x then m else x
def insInt (x : Int) : List Int → List Int
  | [] => [x]
  | y :: r => if x ≤ y then x :: y :: r else y :: insInt x r
def sortInts : List Int → List Int
  | [] => []
  | x :: r => insInt x (sortInts r)
def prim (p : Prim) (as : List D) (st : Store) : Out D := match p, as with
  | .len, [x] => match seqOf st x with
    | some xs => .ok (.int xs.length) st
    | none => .bad
  | .abs, [.int i] => .ok (.int (if i < 0 then -i else i)) st
  | .min2, [.int i, .int j] => .ok (.int (if j < i then j else i)) st
  | .max2, [.int i, .int j] => .ok (.int (if j > i then j else i)) st
  | .sum, [x] => match (listOf st x).bind intsD with
    | some ns => .ok (.int ns.sum) st
    | none => .bad
  | .max1, [x] => match (listOf st x).bind intsD with
    | some (n :: ns) => .ok (.int (maxOf (n :: ns))) st
    | _ => .bad
  | .min1, [x] => match (listOf st x).bind intsD with
    | some (n :: ns) => .ok (.int (minOf (n :: ns))) st
    | _ => .bad
  | .any, [x] => match (listOf st x).bind bools with
    | some bs => .ok (.bl (bs.any id)) st
    | none => .bad
  | .anyT, [.tup xs] => match intsD xs with
    | some ns => .ok (.bl (ns.any fun i => i != 0)) st
    | none => .bad
  | .all, [x] => match (listOf st x).bind bools with
    | some bs => .ok (.bl (bs.all id)) st
    | none => .bad
  | .int, [.int i] => .ok (.int i) st
  | .int, [.bl b] => .ok (.int (if b then 1 else 0)) st
  | .tuple, [x] => match seqOf st x with
    | some xs => .ok (.tup xs) st
    | none => .bad
  | .list m, [x] => match seqOf st x with
    | some xs => newList m xs st
    | none => .bad
  | .sorted, [x] => match (seqOf st x).bind intsD with
    | some ns => if ns.length < 64 then .ok (.scr ((sortInts ns).map .int)) st else .bad
    | none => .bad
  | _, _ => .bad
def meth (m : Meth) (o : D) (as : List D) (st : Store) : Out D := match m, o, as with
  | .append, .ref l, [x] => match st[l]? with
    | some (.lst xs) => if xs.length < sizeLine then .ok .non (st.set l (.lst (xs ++ [x]))) else .bad
    | _ => .bad
  | .pop, .ref l, [] => match st[l]? with
    | some (.lst xs) => match xs.getLast? with
      | some y => .ok y (st.set l (.lst xs.dropLast))
      | none => .bad
    | _ => .bad
  | .extend, .ref l, [.scr ys] => match st[l]? with
    | some (.lst xs) => if xs.length + ys.length ≤ sizeLine then .ok .non (st.set l (.lst (xs ++ ys))) else .bad
    | _ => .bad
  | .bitLength, .int i, [] => .ok (.int (bits i)) st
  | .index, .ref l, [y] => match st[l]? with
    | some (.lst xs) => if flat y && xs.all flat then (match xs.findIdx? (fun z => deq z y) with
      | some j => .ok (.int j) st
      | none => .bad) else .bad
    | _ => .bad
  | _, _, _ => .bad
def methOk (st : Store) : Meth → D → Bool
  | .bitLength, .int _ => true
  | .bitLength, _ => false
  | _, .ref l => match st[l]? with
    | some (.lst _) => true
    | _ => false
  | _, _ => false
def index (x i : D) (st : Store) : Out D := match i with
  | .int k => match (seqOf st x).bind (atI · k) with
    | some d => .ok d st
    | none => .bad
  | _ => .bad
def sliced (x : D) (lo hi : Option Int) (st : Store) : Out D := match x with
  | .tup xs => .ok (.tup (cut xs lo hi)) st
  | d => match listOf st d with
    | some xs => .ok (.scr (cut xs lo hi)) st
    | none => .bad
/-- x[::-1] -/
def revD (x : D) (st : Store) : Out D := match x with
  | .tup xs => .ok (.tup xs.reverse) st
  | d => match listOf st d with
    | some xs => .ok (.scr xs.reverse) st
    | none => .bad
def setIx (x i v : D) (st : Store) : Out Unit := match x, i with
  | .ref l, .int k => match st[l]? with
    | some (.lst xs) => match ixN xs.length k with
      | some j => .ok () (st.set l (.lst (xs.set j v)))
      | none => .bad
    | _ => .bad
  | _, _ => .bad
/-- the place of a field -/
def fix (f : String) : List String → Option Nat
  | [] => none
  | g :: r => if g = f then some 0 else (fix f r).map (· + 1)
/-- x.f -/
def fldD (x : D) (f : String) (st : Store) : Out D := match x with
  | .obj l => match st[l]? with
    | some (.ins _ ns ds) => match (fix f ns).bind fun i => ds[i]? with
      | some d => .ok d st
      | none => .bad
    | _ => .bad
  | _ => .bad
/-- the class of an instance -/
def clsD (x : D) (st : Store) : Option String := match x with
  | .obj l => match st[l]? with
    | some (.ins C _ _) => some C
    | _ => none
  | _ => none
/-- x.f = v: a field that is set, or the next one -/
def setF (x : D) (f : String) (v : D) (st : Store) : Out Unit := match x with
  | .obj l => match st[l]? with
    | some (.ins C ns ds) => match fix f ns with
      | some i => if i < ds.length then .ok () (st.set l (.ins C ns (ds.set i v))) else if i = ds.length then .ok () (st.set l (.ins C ns (ds ++ [v]))) else .bad
      | none => .bad
    | _ => .bad
  | _ => .bad
/-- n items lo, lo + 1, .. -/
def rng (lo : Int) : Nat → List D
  | 0 => []
  | n + 1 => .int lo :: rng (lo + 1) n
def rngC (lo c : Int) : Nat → List D
  | 0 => []
  | n + 1 => .int lo :: rngC (lo + c) c n
noncomputable def rngOk (lo hi : Int) : Bool := chk (-(2 ^ 62) ≤ lo ∧ lo < 2 ^ 62 ∧ -(2 ^ 62) ≤ hi ∧ hi < 2 ^ 62 ∧ (hi - lo).toNat ≤ 16777216)
def enumFrom (i : Int) : List D → List D
  | [] => []
  | x :: r => .tup [.int i, x] :: enumFrom (i + 1) r
def zipD : List D → List D → List D
  | x :: r, y :: s => .tup [x, y] :: zipD r s
  | _, _ => []
def isTup : D → Bool
  | .tup _ => true
  | _ => false
/-- what is walked: its items, and the cells that must stay while it is walked -/
structure Walk where
  items : List D
  keep : List (Nat × List D)
def keepOf : D → List D → List (Nat × List D)
  | .ref l, xs => [(l, xs)]
  | _, _ => []
def stays (st : Store) (ks : List (Nat × List D)) : Bool := ks.all fun p => decide (st[p.1]? = some (.lst p.2))
def wipe (env : Env) : List Nat → Env
  | [] => env
  | i :: is => (wipe env is).set i none
/-- an instance of the class, of which m is no field -/
def isCls (st : Store) (c m : String) : D → Bool
  | .obj l => match st[l]? with
    | some (.ins c' ns _) => decide (c' = c) && !ns.contains m
    | _ => false
  | _ => false
/-- r, if b -/
def guardB {α : Type} (b : Bool) (r : Out α) : Out α := match b with
  | true => r
  | false => .bad
/-! ### expressions -/
structure Cx where
  gl : String → Option D
  call : String → List D → Store → Out D
  ci : String → Option CI
/-- the turns of a comprehension: what is kept of each item -/
def compL (ks : List (Nat × List D)) (turn : D → Store → Out (Option D)) : List D → List D → Store → Out (List D)
  | [], acc, st => if stays st ks then .ok acc st else .bad
  | x :: r, acc, st => if stays st ks then (turn x st).bind fun o st1 => match o with
      | some y => if acc.length < sizeLine then compL ks turn r (acc ++ [y]) st1 else .bad
      | none => compL ks turn r acc st1
    else .bad
/-- within a comprehension nothing is raised -/
def noexc {α : Type} : Out α → Out α
  | .exc _ _ => .bad
  | r => r
mutual
noncomputable def ev (C : Cx) : E → Env → Store → Out D
  | .non, _, st => .ok .non st
  | .bl b, _, st => .ok (.bl b) st
  | .int i, _, st => .ok (.int i) st
  | .str s, _, st => .ok (.str s) st
  | .var i, env, st => match env[i]? with
    | some (some d) => .ok d st
    | _ => .bad
  | .glob x, _, st => match C.gl x with
    | some d => .ok d st
    | none => .bad
  | .con d, _, st => .ok d st
  | .bin op a b, env, st => (ev C a env st).bind fun x st1 => (ev C b env st1).bind fun y st2 => bop op x y st2
  | .neg a, env, st => (ev C a env st).bind fun x st1 => match x with
    | .int i => .ok (.int (-i)) st1
    | _ => .bad
  | .not a, env, st => (ev C a env st).bind fun x st1 => match truth st1 x with
    | some b => .ok (.bl (!b)) st1
    | none => .bad
  | .cmp op a b, env, st => (ev C a env st).bind fun x st1 => (ev C b env st1).bind fun y st2 => cop op x y st2
  | .chain p q a b c, env, st => (ev C a env st).bind fun x st1 => (ev C b env st1).bind fun y st2 => (cop p x y st2).bind fun t st3 => match t with
    | .bl true => (ev C c env st3).bind fun z st4 => cop q y z st4
    | .bl false => .ok (.bl false) st3
    | _ => .bad
  | .chain3 p q r a b c d, env, st => (ev C a env st).bind fun x st1 => (ev C b env st1).bind fun y st2 => (cop p x y st2).bind fun t st3 => match t with
    | .bl true => (ev C c env st3).bind fun z st4 => (cop q y z st4).bind fun t2 st5 => match t2 with
      | .bl true => (ev C d env st5).bind fun w st6 => cop r z w st6
      | .bl false => .ok (.bl false) st5
      | _ => .bad
    | .bl false => .ok (.bl false) st3
    | _ => .bad
  | .and a b, env, st => (ev C a env st).bind fun x st1 => match truth st1 x with
    | some true => ev C b env st1
    | some false => .ok x st1
    | none => .bad
  | .or a b, env, st => (ev C a env st).bind fun x st1 => match truth st1 x with
    | some true => .ok x st1
    | some false => ev C b env st1
    | none => .bad
  | .ite c a b, env, st => (ev C c env st).bind fun x st1 => match truth st1 x with
    | some true => ev C a env st1
    | some false => ev C b env st1
    | none => .bad
  | .call f as, env, st => (evs C as env st).bind fun xs st1 => C.call f xs st1
  | .prim p as, env, st => (evs C as env st).bind fun xs st1 => prim p xs st1
  | .isi t a, env, st => (ev C a env st).bind fun x st1 => if noTy st1 x then .bad else .ok (.bl (isTy st1 t x)) st1
  | .isi2 t u a, env, st => (ev C a env st).bind fun x st1 => if noTy st1 x then .bad else .ok (.bl (isTy st1 t x || isTy st1 u x)) st1
  | .ix a i, env, st => (ev C a env st).bind fun x st1 => (ev C i env st1).bind fun y st2 => index x y st2
  | .slice a lo hi, env, st => (ev C a env st).bind fun x st1 => (evo C lo env st1).bind fun l st2 => (evo C hi env st2).bind fun h st3 => sliced x l h st3
  | .tup as, env, st => (evs C as env st).bind fun xs st1 => if xs.length ≤ sizeLine then .ok (.tup xs) st1 else .bad
  | .lst m as, env, st => (evs C as env st).bind fun xs st1 => if xs.length ≤ sizeLine then newList m xs st1 else .bad
  | .comp m own elt tg it c, env, st => (evIt C it env st).bind fun w st1 =>
      (noexc (compL w.keep (fun x st2 => (asg C tg x (wipe env own) st2).bind fun env3 st3 => (evc C c env3 st3).bind fun b st4 =>
        if b then (ev C elt env3 st4).bind fun y st5 => .ok (some y) st5 else .ok none st4) w.items [] st1)).bind fun ys st2 => newList m ys st2
  | .compx m own elt tg it c, env, st => (evIt C it env st).bind fun w st1 =>
      (compL w.keep (fun x st2 => (noexc (asg C tg x (wipe env own) st2)).bind fun env3 st3 => (evc C c env3 st3).bind fun b st4 =>
        if b then (ev C elt env3 st4).bind fun y st5 => .ok (some y) st5 else .ok none st4) w.items [] st1).bind fun ys st2 => newList m ys st2
  | .lrange m lo hi, env, st => (ev C lo env st).bind fun x st1 => (ev C hi env st1).bind fun y st2 => match x, y with
    | .int i, .int j => if rngOk i j then newList m (rng i (j - i).toNat) st2 else .bad
    | _, _ => .bad
  | .lrep a b, env, st => (ev C a env st).bind fun x st1 => (ev C b env st1).bind fun y st2 => mrep x y st2
  | .ladd a b, env, st => (ev C a env st).bind fun x st1 => (ev C b env st1).bind fun y st2 => madd x y st2
  | .rev a, env, st => (ev C a env st).bind fun x st1 => revD x st1
  | .fnv x, _, st => .ok (.fn x) st
  | .callv i fs as, env, st => match env[i]? with
    | some (some (.fn x)) => if fs.contains x then (evs C as env st).bind fun xs st1 => C.call x xs st1 else .bad
    | _ => .bad
  | .meth m o as, env, st => (ev C o env st).bind fun x st1 => guardB (methOk st1 m x) ((evs C as env st1).bind fun xs st2 => meth m x xs st2)
  | .fld o f, env, st => (ev C o env st).bind fun x st1 => fldD x f st1
  | .mk c as, env, st => match C.ci c with
    | some I => (evs C as env st).bind fun xs st1 => (C.call I.init (.obj st1.length :: xs) (st1 ++ [.ins c I.ns []])).bind fun d st2 => if isNon d then .ok (.obj st1.length) st2 else .bad
    | none => .bad
  | .mcall o c m as, env, st => match (C.ci c).bind fun I => I.ms.lookup m with
    | some g => (ev C o env st).bind fun x st1 => if isCls st1 c m x then (evs C as env st1).bind fun xs st2 => C.call g (x :: xs) st2 else .bad
    | none => .bad
noncomputable def evs (C : Cx) : Es → Env → Store → Out (List D)
  | .nil, _, st => .ok [] st
  | .cons e es, env, st => (ev C e env st).bind fun x st1 => (evs C es env st1).bind fun xs st2 => .ok (x :: xs) st2
/-- a part of a slice -/
noncomputable def evo (C : Cx) : Eo → Env → Store → Out (Option Int)
  | .none, _, st => .ok none st
  | .some e, env, st => (ev C e env st).bind fun x st1 => match x with
    | .int i => .ok (some i) st1
    | _ => .bad
/-- a condition of a comprehension -/
noncomputable def evc (C : Cx) : Eo → Env → Store → Out Bool
  | .none, _, st => .ok true st
  | .some e, env, st => (ev C e env st).bind fun x st1 => match truth st1 x with
    | some b => .ok b st1
    | none => .bad
noncomputable def evIt (C : Cx) : It → Env → Store → Out Walk
  | .seq e, env, st => (ev C e env st).bind fun x st1 => match seqOf st1 x with
    | some xs => .ok ⟨xs, keepOf x xs⟩ st1
    | none => .bad
  | .rng1 a, env, st => (ev C a env st).bind fun x st1 => match x with
    | .int j => if rngOk 0 j then .ok ⟨rng 0 j.toNat, []⟩ st1 else .bad
    | _ => .bad
  | .rng2 a b, env, st => (ev C a env st).bind fun x st1 => (ev C b env st1).bind fun y st2 => match x, y with
    | .int i, .int j => if rngOk i j then .ok ⟨rng i (j - i).toNat, []⟩ st2 else .bad
    | _, _ => .bad
  | .rng3 a b c, env, st => (ev C a env st).bind fun x st1 => (ev C b env st1).bind fun y st2 => (ev C c env st2).bind fun z st3 => match x, y, z with
    | .int i, .int j, .int c => if c = -1 ∧ rngOk j i = true then .ok ⟨rngC i c (i - j).toNat, []⟩ st3 else .bad
    | _, _, _ => .bad
  | .enum e, env, st => (ev C e env st).bind fun x st1 => match seqOf st1 x with
    | some xs => .ok ⟨enumFrom 0 xs, keepOf x xs⟩ st1
    | none => .bad
  | .zip a b, env, st => (ev C a env st).bind fun x st1 => (ev C b env st1).bind fun y st2 => match seqOf st2 x, seqOf st2 y with
    | some xs, some ys => if isTup x == isTup y then .ok ⟨zipD xs ys, keepOf x xs ++ keepOf y ys⟩ st2 else .bad
    | _, _ => .bad
noncomputable def asg (C : Cx) : Tg → D → Env → Store → Out Env
  | .nm i, d, env, st => .ok (env.set i (some d)) st
  | .tp ts, d, env, st => match seqOf st d with
    | some xs => asgs C ts xs env st
    | none => .bad
  | .ix a i, d, env, st => (ev C a env st).bind fun x st1 => (ev C i env st1).bind fun y st2 => (setIx x y d st2).bind fun _ st3 => .ok env st3
noncomputable def asgs (C : Cx) : Tgs → List D → Env → Store → Out Env
  | .nil, [], env, st => .ok env st
  | .cons t ts, x :: xs, env, st => (asg C t x env st).bind fun env1 st1 => asgs C ts xs env1 st1
  | _, _, _, _ => .bad
end
/-! ### statements -/
/-- how a statement ends: nx: goes on; xc: something is raised -/
inductive Fl where
  | nx (env : Env) | rt (d : D) | bk (env : Env) | ct (env : Env) | xc (c : String) (env : Env)
/-- what an expression raises, with the names as they stand -/
def lift {α : Type} (env : Env) (r : Out α) (f : α → Store → Out Fl) : Out Fl := match r with
  | .ok a st => f a st
  | .exc c st => .ok (.xc c env) st
  | .bad => .bad
@[simp] theorem lift_ok {α : Type} (env : Env) (a : α) (st : Store) (f : α → Store → Out Fl) : lift env (.ok a st) f = f a st := rfl
@[simp] theorem lift_exc {α : Type} (env : Env) (c : String) (st : Store) (f : α → Store → Out Fl) : lift env (.exc c st) f = .ok (.xc c env) st := rfl
@[simp] theorem lift_bad {α : Type} (env : Env) (f : α → Store → Out Fl) : lift env (.bad) f = .bad := rfl
def whileN (t : Env → Store → Out Bool) (b : Env → Store → Out Fl) : Nat → Env → Store → Out Fl
  | 0, _, _ => .bad
  | n + 1, env, st => lift env (t env st) fun c st1 => if c then (b env st1).bind fun f st2 => match f with
      | .nx e => whileN t b n e st2
      | .ct e => whileN t b n e st2
      | .bk e => .ok (.nx e) st2
      | .rt d => .ok (.rt d) st2
      | .xc c e => .ok (.xc c e) st2
    else .ok (.nx env) st1
theorem whileN_mono (t : Env → Store → Out Bool) (b : Env → Store → Out Fl) : ∀ (n : Nat) (env : Env) (st : Store), whileN t b n env st ≠ .bad → whileN t b (n + 1) env st = whileN t b n env st
  | 0, _, _, h => absurd rfl h
  | n + 1, env, st, h => by
    rw [whileN]
    rw [whileN] at h
    conv => rhs; rw [whileN]
    cases e : t env st with
    | bad => rfl
    | exc c s => rfl
    | ok c st1 =>
      rw [e] at h
      simp only [lift_ok] at h ⊢
      cases c with
      | false => rfl
      | true =>
        simp only [if_true] at h ⊢
        cases e2 : b env st1 with
        | bad => rfl
        | exc c s => rfl
        | ok f st2 =>
          rw [e2] at h
          simp only [bind_ok] at h ⊢
          cases f with
          | nx e => exact whileN_mono t b n e st2 h
          | ct e => exact whileN_mono t b n e st2 h
          | _ => rfl
theorem whileN_le (t : Env → Store → Out Bool) (b : Env → Store → Out Fl) (env : Env) (st : Store) (n : Nat) (h : whileN t b n env st ≠ .bad) : ∀ k, whileN t b (n + k) env st = whileN t b n env st
  | 0 => rfl
  | k + 1 => by
    have ih := whileN_le t b env st n h k
    rw [← ih]
    exact whileN_mono t b (n + k) env st (by rw [ih]; exact h)
open Classical in
/-- the loop, if it ends -/
noncomputable def whileS (t : Env → Store → Out Bool) (b : Env → Store → Out Fl) (env : Env) (st : Store) : Out Fl :=
  if h : ∃ n, whileN t b n env st ≠ .bad then whileN t b (Classical.choose h) env st else .bad
theorem whileS_of {t : Env → Store → Out Bool} {b : Env → Store → Out Fl} {env : Env} {st : Store} (n : Nat) (h : whileN t b n env st ≠ .bad) : whileS t b env st = whileN t b n env st := by
  have ex : ∃ n, whileN t b n env st ≠ .bad := ⟨n, h⟩
  unfold whileS
  rw [dif_pos ex]
  have hc := Classical.choose_spec ex
  have a := whileN_le t b env st _ hc n
  have c := whileN_le t b env st n h (Classical.choose ex)
  rw [← a, Nat.add_comm, c]
theorem whileS_some {t : Env → Store → Out Bool} {b : Env → Store → Out Fl} {env : Env} {st : Store} (h : whileS t b env st ≠ .bad) : ∃ n, whileN t b n env st = whileS t b env st := by
  unfold whileS at h ⊢
  by_cases ex : ∃ n, whileN t b n env st ≠ .bad
  · rw [dif_pos ex]; exact ⟨_, rfl⟩
  · rw [dif_neg ex] at h; exact absurd rfl h
/-- one turn -/
theorem whileS_eq (t : Env → Store → Out Bool) (b : Env → Store → Out Fl) (env : Env) (st : Store) :
    whileS t b env st = lift env (t env st) fun c st1 => if c then (b env st1).bind fun f st2 => match f with
      | .nx e => whileS t b e st2
      | .ct e => whileS t b e st2
      | .bk e => .ok (.nx e) st2
      | .rt d => .ok (.rt d) st2
      | .xc c e => .ok (.xc c e) st2
    else .ok (.nx env) st1 := by
  by_cases h : whileS t b env st = .bad
  · rw [h]
    cases e : t env st with
    | bad => rfl
    | exc c s =>
      have := whileS_of (t := t) (b := b) (env := env) (st := st) 1 (by rw [whileN, e]; simp)
      rw [h, whileN, e] at this; simp at this
    | ok c st1 =>
      cases c with
      | false =>
        have := whileS_of (t := t) (b := b) (env := env) (st := st) 1 (by rw [whileN, e]; simp)
        rw [h, whileN, e] at this; simp at this
      | true =>
        simp only [lift_ok, if_true]
        cases e2 : b env st1 with
        | bad => rfl
        | exc c s =>
          have := whileS_of (t := t) (b := b) (env := env) (st := st) 1 (by rw [whileN, e]; simp [e2])
          rw [h, whileN, e] at this; simp [e2] at this
        | ok f st2 =>
          simp only [bind_ok]
          have key : ∀ e', (f = .nx e' ∨ f = .ct e') → whileS t b e' st2 = .bad := fun e' hf => by
            apply Classical.byContradiction
            intro hn
            obtain ⟨n, hn'⟩ := whileS_some hn
            have z : whileN t b (n + 1) env st = whileS t b e' st2 := by
              rw [whileN, e, ← hn']; rcases hf with rfl | rfl <;> simp [e2]
            have := whileS_of (t := t) (b := b) (env := env) (st := st) (n + 1) (by rw [z]; exact hn)
            rw [h, z] at this
            exact hn this.symm
          cases f with
          | nx e' => exact (key e' (.inl rfl)).symm
          | ct e' => exact (key e' (.inr rfl)).symm
          | bk e' =>
            have := whileS_of (t := t) (b := b) (env := env) (st := st) 1 (by rw [whileN, e]; simp [e2])
            rw [h, whileN, e] at this; simp [e2] at this
          | rt e' =>
            have := whileS_of (t := t) (b := b) (env := env) (st := st) 1 (by rw [whileN, e]; simp [e2])
            rw [h, whileN, e] at this; simp [e2] at this
          | xc c' e' =>
            have := whileS_of (t := t) (b := b) (env := env) (st := st) 1 (by rw [whileN, e]; simp [e2])
            rw [h, whileN, e] at this; simp [e2] at this
  · obtain ⟨n, hn⟩ := whileS_some h
    cases n with
    | zero => rw [whileN] at hn; exact absurd hn.symm h
    | succ n =>
      rw [← hn] at h
      rw [← hn, whileN]
      rw [whileN] at h
      cases e : t env st with
      | bad => rfl
      | exc c s => rfl
      | ok c st1 =>
        rw [e] at h
        cases c with
        | false => rfl
        | true =>
          simp only [lift_ok, if_true] at h ⊢
          cases e2 : b env st1 with
          | bad => rfl
          | exc c s => rfl
          | ok f st2 =>
            rw [e2] at h
            simp only [bind_ok] at h ⊢
            cases f with
            | nx e' => exact (whileS_of n h).symm
            | ct e' => exact (whileS_of n h).symm
            | _ => rfl
def forL (ks : List (Nat × List D)) (set : D → Env → Store → Out Env) (b : Env → Store → Out Fl) : List D → Env → Store → Out Fl
  | [], env, st => if stays st ks then .ok (.nx env) st else .bad
  | x :: r, env, st => if stays st ks then (noexc (set x env st)).bind fun env1 st1 => (b env1 st1).bind fun f st2 => match f with
      | .nx e => forL ks set b r e st2
      | .ct e => forL ks set b r e st2
      | .bk e => .ok (.nx e) st2
      | .rt d => .ok (.rt d) st2
      | .xc c e => .ok (.xc c e) st2
    else .bad
noncomputable def evt (C : Cx) (e : E) (env : Env) (st : Store) : Out Bool := (ev C e env st).bind fun x st1 => match truth st1 x with
  | some b => .ok b st1
  | none => .bad
/-- a handler raises nothing -/
def noxc : Fl → Store → Out Fl
  | .xc _ _, _ => .bad
  | f, st => .ok f st
def anyO : List (Option Bool) → Option Bool
  | [] => some false
  | none :: _ => none
  | some b :: r => (anyO r).map (b || ·)
def hev (sub : String → String → Option Bool) (c : String) : HE → Option Bool
  | .isx cs => anyO (cs.map fun d => sub c ("?" ++ d))
  | .hnot a => (hev sub c a).map (!·)
  | .hand a b => match hev sub c a with
    | some true => hev sub c b
    | some false => some false
    | none => none
/-- a name holds a, then `it and b` is asked -/
def hev2 (sub : String → String → Option Bool) (c : String) (a b : HE) : Option Bool := match hev sub c a with
  | some true => hev sub c b
  | some false => some false
  | none => none
def hrv (sub : String → String → Option Bool) (c : String) : HR → Option D
  | .b h => (hev sub c h).map .bl
  | .lb s h => (hev sub c h).map fun b => .scr [.str s, .bl b]
mutual
noncomputable def exec (C : Cx) (sub : String → String → Option Bool) : S → Env → Store → Out Fl
  | .assign t e, env, st => lift env (ev C e env st) fun x st1 => lift env (noexc (asg C t x env st1)) fun env2 st2 => .ok (.nx env2) st2
  | .par2 i j a b, env, st => lift env (ev C a env st) fun x st1 => lift env (ev C b env st1) fun y st2 => .ok (.nx ((env.set i (some x)).set j (some y))) st2
  | .aug i op e, env, st => match env[i]? with
    | some (some x) => lift env (ev C e env st) fun y st1 => lift env (iop op x y st1) fun z st2 => .ok (.nx (env.set i (some z))) st2
    | _ => .bad
  | .setf o f e, env, st => lift env (ev C e env st) fun v st1 => lift env (ev C o env st1) fun x st2 => lift env (setF x f v st2) fun _ st3 => .ok (.nx env) st3
  | .augf o f op e, env, st => lift env (ev C o env st) fun x st1 => lift env (fldD x f st1) fun v st2 => lift env (ev C e env st2) fun y st3 => lift env (iop op v y st3) fun z st4 => lift env (if clsD x st1 = clsD x st4 then setF x f z st4 else .bad) fun _ st5 => .ok (.nx env) st5
  | .augi o i op e, env, st => lift env (ev C o env st) fun x st1 => lift env (ev C i env st1) fun j st2 => lift env (index x j st2) fun v st3 => lift env (ev C e env st3) fun y st4 => lift env (iop op v y st4) fun z st5 => lift env (setIx x j z st5) fun _ st6 => .ok (.nx env) st6
  | .expr e, env, st => lift env (ev C e env st) fun _ st1 => .ok (.nx env) st1
  | .ret e, env, st => lift env (ev C e env st) fun x st1 => .ok (.rt x) st1
  | .ret0, _, st => .ok (.rt .non) st
  | .ite c a b, env, st => lift env (evt C c env st) fun t st1 => if t then execs C sub a env st1 else execs C sub b env st1
  | .while c b, env, st => whileS (evt C c) (execs C sub b) env st
  | .for t it b, env, st => lift env (evIt C it env st) fun w st1 => forL w.keep (asg C t) (execs C sub b) w.items env st1
  | .stop, _, _ => .bad
  | .pass, env, st => .ok (.nx env) st
  | .brk, env, st => .ok (.bk env) st
  | .cont, env, st => .ok (.ct env) st
  | .raise c, env, st => .ok (.xc c env) st
  | .tryx b c h, env, st => (execs C sub b env st).bind fun f st1 => match f with
    | .xc c' env1 => match sub c' c with
      | some true => (execs C sub h env1 st1).bind noxc
      | some false => .ok (.xc c' env1) st1
      | none => .bad
    | f => .ok f st1
  | .trym b hs, env, st => (execs C sub b env st).bind fun f st1 => match f with
    | .xc c' env1 => hdl C sub hs c' env1 st1
    | f => .ok f st1
noncomputable def hdl (C : Cx) (sub : String → String → Option Bool) : Hs → String → Env → Store → Out Fl
  | .nil, c', env, st => .ok (.xc c' env) st
  | .plain c h r, c', env, st => match sub c' c with
    | some true => (execs C sub h env st).bind noxc
    | some false => hdl C sub r c' env st
    | none => .bad
  | .named c i x r, c', env, st => match sub c' c with
    | some true => match hrv sub c' x with
      | some d => if i < env.length then .ok (.rt d) st else .bad
      | none => .bad
    | some false => hdl C sub r c' env st
    | none => .bad
  | .named2 c i j s a b r, c', env, st => match sub c' c with
    | some true => match hev2 sub c' a b with
      | some v => if i < env.length ∧ j < env.length ∧ i ≠ j then .ok (.rt (.scr [.str s, .bl v])) st else .bad
      | none => .bad
    | some false => hdl C sub r c' env st
    | none => .bad
noncomputable def execs (C : Cx) (sub : String → String → Option Bool) : Ss → Env → Store → Out Fl
  | .nil, env, st => .ok (.nx env) st
  | .cons s ss, env, st => (exec C sub s env st).bind fun f st1 => match f with
    | .nx e => execs C sub ss e st1
    | f => .ok f st1
end
/-! ### calls -/
mutual
def noRef : D → Bool
  | .ref _ => false
  | .obj _ => false
  | .tup xs => noRefs xs
  | .scr xs => noRefs xs
  | .fro xs => noRefs xs
  | _ => true
def noRefs : List D → Bool
  | [] => true
  | x :: r => noRef x && noRefs r
end
mutual
/-- all references are below n -/
def below (n : Nat) : D → Bool
  | .ref l => decide (l < n)
  | .obj l => decide (l < n)
  | .tup xs => belows n xs
  | .scr xs => belows n xs
  | .fro xs => belows n xs
  | _ => true
def belows (n : Nat) : List D → Bool
  | [] => true
  | x :: r => below n x && belows n r
end
def cellBelow (n : Nat) : Cell → Bool
  | .lst xs => belows n xs
  | .ins _ _ xs => belows n xs
/-- behind a call the cells that it made are dropped, if nothing leads to them -/
def gc (st st1 : Store) (d : D) : Store :=
  if noRef d && (decide (st1.take st.length = st) || (st1.take st.length).all (cellBelow st.length)) then st1.take st.length else st1
def back (st : Store) (r : Out Fl) : Out D := match r with
  | .ok (.rt d) st1 => .ok d (gc st st1 d)
  | .ok (.nx _) st1 => .ok .non (gc st st1 .non)
  | .ok (.xc c _) st1 => .exc c (gc st st1 .non)
  | _ => .bad
def start (n : Nat) (as : List D) : Env := as.map some ++ List.replicate (n - as.length) none
noncomputable def callF (P : Pg) (sub : String → String → Option Bool) : Nat → String → List D → Store → Out D
  | 0, _, _, _ => .bad
  | k + 1, f, as, st => match P.fn f with
    | some F => if as.length = F.ps then back st (execs ⟨P.gl, callF P sub k, P.ci⟩ sub F.body (start F.n as) st) else .bad
    | none => .bad
end Lg
namespace So
open PySem PySem.Spec PyProof.Rows L2
/-! ### the module's facts by names -/
/-- qualified name, name, class, the def -/
def atN (p : String × String × Option String × Stmt) : Str × Option Str := match p.2.2.1 with
  | none => (Str.ofString p.1, none)
  | some c => (Str.ofString c, some (Str.ofString p.2.1))
def fnN (l : List (String × String × Option String × Stmt)) : List He.FnD := l.map fun p => ⟨atN p, Str.ofString p.2.1, Str.ofString p.1, defArgs p.2.2.2, defBody p.2.2.2, defScope p.2.2.2⟩
/-- the facts of a class -/
def faK (p : String × Lg.CI) : List He.Fa := .glo (Str.ofString p.1) :: .cls (Str.ofString p.1) :: .mkr (Str.ofString p.1) :: .meth (Str.ofString p.1) (Str.ofString "__init__") :: ((p.2.ns.map fun f => He.Fa.noat (Str.ofString p.1) (Str.ofString f)) ++ p.2.ms.map fun m => He.Fa.meth (Str.ofString p.1) (Str.ofString m.1))
def faN (ns : List String) (xs : List String) (ex : List (String × String × Bool)) (gi : List (String × Int)) (bs : List String) (cl : List (String × Lg.CI)) : List He.Fa := (ns.map fun x => He.Fa.glo (Str.ofString x)) ++ ((ns.map fun x => He.Fa.keep (Str.ofString x)) ++ ((bs.map fun x => He.Fa.free (Str.ofString x)) ++
  ((xs.map fun x => He.Fa.glo (Str.ofString x)) ++ ((xs.map fun x => He.Fa.exc (Str.ofString x)) ++ ((ex.map fun p => He.Fa.exm (Str.ofString p.1) (Str.ofString p.2.1) p.2.2) ++ ((gi.map fun p => He.Fa.int (Str.ofString p.1) p.2) ++ cl.flatMap faK))))))
def clsU (K : PySem.W.Frag) (d : String) : Value := if d = "ValueError" then .type "ValueError" else .ref (He.ga K (Str.ofString d))
def excCb (K : PySem.W.Frag) (D : Addr) : Bool :=
  He.eqO (PySem.W.findIn K (.ref D) "__getattribute__") (some (some (.builtin "BaseException.__getattribute__"))) && (He.eqO (PySem.W.findIn K (.ref D) "__getattr__") (some none) &&
  (decide (PySem.W.subIn K (.ref D) (.type "BaseException") = some true) && (PySem.W.hasDictIn K D && (He.eqO (PySem.W.findIn K (.ref D) "__class__") (some (some (.builtin "object.__class__"))) &&
  (He.eqO (PySem.W.specialIn K (.builtin "object.__class__") "__get__") (some (some (.builtin "getset_descriptor.__get__"))) && (decide (PySem.W.takesIn K (.builtin "object.__class__") = some true) && decide (PySem.W.mroIn K D (.type "object") = some true)))))))
def qOk (K : PySem.W.Frag) (p : String × String × Bool) : Bool :=
  excCb K (He.ga K (Str.ofString p.1)) && (decide (PySem.W.kitOne K (.ref (He.ga K (Str.ofString p.1))) (clsU K p.2.1) = some p.2.2) &&
  (if p.2.1 = "ValueError" then He.eqO (PySem.W.nsIn K mainGlobals (Str.ofString p.2.1)) (some none) else He.eqO (PySem.W.nsIn K mainGlobals (Str.ofString p.2.1)) (some (some (.ref (He.ga K (Str.ofString p.2.1)))))))
def qAll (iq : List (String × String × Bool)) (K : PySem.W.Frag) : Bool := iq.all (qOk K)
/-! is a value of the module this constant? -/
mutual
def conV (K : PySem.W.Frag) : Value → Lg.D → Bool
  | .int j _, .int i => decide (j = i)
  | .str y _, .str s => decide (y = Str.ofString s)
  | .ref a, .tup ds => match K.lookup a with
    | some ⟨cls, _, .seq its _, _⟩ => decide (cls = .type "tuple") && decide (its.size ≤ sizeLine) && conVs K its.toList ds
    | _ => false
  | _, _ => false
def conVs (K : PySem.W.Frag) : List Value → List Lg.D → Bool
  | [], [] => true
  | u :: us, d :: ds => conV K u d && conVs K us ds
  | _, _ => false
end
def cOk (K : PySem.W.Frag) (p : String × Lg.D) : Bool := match PySem.W.nsIn K mainGlobals (Str.ofString p.1) with
  | some (some u) => conV K u p.2
  | _ => false
def cAll (cs : List (String × Lg.D)) (K : PySem.W.Frag) : Bool := cs.all (cOk K)
/-- the facts read at the addresses as -/
def hookA (as : List Addr) (fa : List He.Fa) (fn : List He.FnD) (q : PySem.W.Frag → Bool) : PySem.W.Hook where
  α := He.Al × Bool
  obs := fun s => (He.obsE fa fn (He.frG s.heap.get? as), q (He.frG s.heap.get? as))
  val := fun _ => (He.valE fn, true)
  says := fun _ h => ∃ K : PySem.W.Frag, K.In h ∧ He.SaysE fa fn K ∧ q K = true
  of := fun _ s e => ⟨He.frG s.heap.get? as, He.frG_in, (Prod.mk.inj e).1, (Prod.mk.inj e).2⟩
  keeps := fun _ _ _ ⟨K, hK, c, d⟩ k => ⟨K, PySem.W.Frag.In.keeps hK k, c, d⟩
theorem obA_eq {as : List Addr} {fa : List He.Fa} {fn : List He.FnD} {q : PySem.W.Frag → Bool} {g : Addr → Option Obj} {s : Shared} (h : ∀ a, g a = s.heap.get? a) : (He.obsE fa fn (He.frG g as), q (He.frG g as)) = (hookA as fa fn q).obs s := by
  have e : g = s.heap.get? := funext h
  rw [e]; rfl
theorem map3 {α β γ δ : Type} {E : Option α} {a : α → β} {b : α → γ} {c : α → δ} {x : β} {y : γ} {z : δ} (h1 : E.map a = some x) (h2 : E.map b = some y) (h3 : E.map c = some z) : E.map (fun s => (a s, b s, c s)) = some (x, y, z) := by
  cases E with
  | none => cases h1
  | some s =>
    simp only [Option.map_some, Option.some.injEq] at h1 h2 h3 ⊢
    rw [h1, h2, h3]
end So
namespace Rwk23
open PySem PySem.Spec L2
def gi : List (String × Int) := [("MOST_PRIME", 65521)]
def cs : List (String × Lg.D) := []
def cl : List (String × Lg.CI) := []
def ks : List String := []
def exs : List (String × String × Bool) := [("DomainError", "DomainError", true), ("SingularError", "DomainError", false), ("ShapeError", "DomainError", false)]
def iq : List (String × String × Bool) := []
def topS (i : Nat) : Stmt := PySem.Challenge.pw_longrank_k23_changes_of_domain_and_more.main.body.getD i (.Pass ⟨0, 0, 0, 0⟩)
def xs : List String := ["DomainError", "ShapeError", "SingularError"]
abbrev R : PySem.W.OpenRow := PySem.W.OpenLaw.row PySem.Challenge.rw_longrank_k23_changes_of_domain_and_more
def nmL : List String := ["common", "divisor", "is_prime", "fraction", "is_integer", "is_domain", "is_field", "need_domain", "need_field", "zero", "one", "from_integer", "trimmed", "add", "multiply", "inverse", "quotient", "need_shape", "need_square", "identity", "zero_matrix", "plus", "dot", "times", "scaled", "transposed", "may_change", "changed", "change", "evaluated", "_law_start", "_law_fill", "_law_take", "_law_raised", "_law_common", "_law_fraction", "_law_zero", "_law_strip", "_law_number", "_law_part", "_law_add", "_law_multiply", "_law_subtract", "_law_power", "_law_inverse", "_law_some_prime", "_law_field", "_law_domain", "_law_integer", "_law_element", "_law_small", "_law_matrix", "_law_dot", "_law_column", "_law_product", "_law_identity", "_law_shape", "_law_changed", "_law_told", "_law_same", "_law_part_a", "_law_part_b", "law"]
def nst : List (String × String × Option String × Stmt) := [("common", "common", none, topS 6), ("divisor", "divisor", none, topS 7), ("is_prime", "is_prime", none, topS 8), ("fraction", "fraction", none, topS 9), ("is_integer", "is_integer", none, topS 12), ("is_domain", "is_domain", none, topS 13), ("is_field", "is_field", none, topS 14), ("need_domain", "need_domain", none, topS 15), ("need_field", "need_field", none, topS 16), ("zero", "zero", none, topS 17), ("one", "one", none, topS 18), ("from_integer", "from_integer", none, topS 19), ("trimmed", "trimmed", none, topS 20), ("add", "add", none, topS 21), ("multiply", "multiply", none, topS 22), ("inverse", "inverse", none, topS 23), ("quotient", "quotient", none, topS 24), ("need_shape", "need_shape", none, topS 26), ("need_square", "need_square", none, topS 27), ("identity", "identity", none, topS 28), ("zero_matrix", "zero_matrix", none, topS 29), ("plus", "plus", none, topS 30), ("dot", "dot", none, topS 31), ("times", "times", none, topS 32), ("scaled", "scaled", none, topS 33), ("transposed", "transposed", none, topS 34), ("may_change", "may_change", none, topS 35), ("changed", "changed", none, topS 36), ("change", "change", none, topS 37), ("evaluated", "evaluated", none, topS 38), ("_law_start", "_law_start", none, topS 40), ("_law_fill", "_law_fill", none, topS 41), ("_law_take", "_law_take", none, topS 42), ("_law_raised", "_law_raised", none, topS 43), ("_law_common", "_law_common", none, topS 44), ("_law_fraction", "_law_fraction", none, topS 45), ("_law_zero", "_law_zero", none, topS 46), ("_law_strip", "_law_strip", none, topS 47), ("_law_number", "_law_number", none, topS 48), ("_law_part", "_law_part", none, topS 49), ("_law_add", "_law_add", none, topS 50), ("_law_multiply", "_law_multiply", none, topS 51), ("_law_subtract", "_law_subtract", none, topS 52), ("_law_power", "_law_power", none, topS 53), ("_law_inverse", "_law_inverse", none, topS 54), ("_law_some_prime", "_law_some_prime", none, topS 55), ("_law_field", "_law_field", none, topS 56), ("_law_domain", "_law_domain", none, topS 57), ("_law_integer", "_law_integer", none, topS 58), ("_law_element", "_law_element", none, topS 59), ("_law_small", "_law_small", none, topS 60), ("_law_matrix", "_law_matrix", none, topS 61), ("_law_dot", "_law_dot", none, topS 62), ("_law_column", "_law_column", none, topS 63), ("_law_product", "_law_product", none, topS 64), ("_law_identity", "_law_identity", none, topS 65), ("_law_shape", "_law_shape", none, topS 66), ("_law_changed", "_law_changed", none, topS 67), ("_law_told", "_law_told", none, topS 68), ("_law_same", "_law_same", none, topS 69), ("_law_part_a", "_law_part_a", none, topS 70), ("_law_part_b", "_law_part_b", none, topS 71), ("law", "law", none, topS 72)]
def fn : List He.FnD := So.fnN nst
def fa : List He.Fa := So.faN nmL xs exs gi ["len", "abs", "min", "max", "sum", "any", "all", "int", "tuple", "list", "sorted", "isinstance", "range", "enumerate", "zip", "bool", "str"] cl
def qf (K : PySem.W.Frag) : Bool := So.qAll iq K && So.cAll cs K
def asL : List PySem.Addr := [3, 6, 4, 37, 49, 61, 70, 77, 84, 91, 98, 105, 112, 119, 126, 133, 140, 147, 154, 161, 166, 173, 180, 187, 194, 199, 204, 209, 216, 221, 226, 231, 238, 245, 250, 257, 262, 269, 276, 283, 290, 297, 304, 311, 318, 325, 330, 337, 344, 351, 358, 363, 370, 377, 384, 389, 394, 399, 406, 411, 416, 421, 428, 435, 442, 447, 452, 457, 462, 36, 24, 48, 60, 69, 76, 83, 90, 97, 104, 111, 118, 125, 132, 139, 146, 153, 160, 165, 172, 179, 186, 193, 198, 203, 208, 215, 220, 225, 230, 237, 244, 249, 256, 261, 268, 275, 282, 289, 296, 303, 310, 317, 324, 329, 336, 343, 350, 357, 362, 369, 376, 383, 388, 393, 398, 405, 410, 415, 420, 427, 434, 441, 446, 451, 456, 461, 35, 23, 47, 59, 64, 65, 66, 67, 68, 71, 72, 73, 74, 75, 78, 79, 80, 81, 82, 85, 86, 87, 88, 89, 92, 93, 94, 95, 96, 99, 100, 101, 102, 103, 106, 107, 108, 109, 110, 113, 114, 115, 116, 117, 120, 121, 122, 123, 124, 127, 128, 129, 130, 131, 134, 135, 136, 137, 138, 141, 142, 143, 144, 145, 148, 149, 150, 151, 152, 155, 156, 157, 158, 159, 162, 163, 164, 167, 168, 169, 170, 171, 174, 175, 176, 177, 178, 181, 182, 183, 184, 185, 188, 189, 190, 191, 192, 195, 196, 197, 200, 201, 202, 205, 206, 207, 210, 211, 212, 213, 214, 217, 218, 219, 222, 223, 224, 227, 228, 229, 232, 233, 234, 235, 236, 239, 240, 241, 242, 243, 246, 247, 248, 251, 252, 253, 254, 255, 258, 259, 260, 263, 264, 265, 266, 267, 270, 271, 272, 273, 274, 277, 278, 279, 280, 281, 284, 285, 286, 287, 288, 291, 292, 293, 294, 295, 298, 299, 300, 301, 302, 305, 306, 307, 308, 309, 312, 313, 314, 315, 316, 319, 320, 321, 322, 323, 326, 327, 328, 331, 332, 333, 334, 335, 338, 339, 340, 341, 342, 345, 346, 347, 348, 349, 352, 353, 354, 355, 356, 359, 360, 361, 364, 365, 366, 367, 368, 371, 372, 373, 374, 375, 378, 379, 380, 381, 382, 385, 386, 387, 390, 391, 392, 395, 396, 397, 400, 401, 402, 403, 404, 407, 408, 409, 412, 413, 414, 417, 418, 419, 422, 423, 424, 425, 426, 429, 430, 431, 432, 433, 436, 437, 438, 439, 440, 443, 444, 445, 448, 449, 450, 453, 454, 455, 458, 459, 460, 22, 25]
abbrev hk : PySem.W.Hook := So.hookA asL fa fn qf
def ob (s : PySem.W.SharedT) : He.Al × Bool := (He.obsE fa fn (He.frG (HandSHeadRun.getT s) asL), qf (He.frG (HandSHeadRun.getT s) asL))
theorem ob_eq (s : PySem.W.SharedT) : ob s = hk.obs s.abs := So.obA_eq (as := asL) (q := qf) (HandSHeadRun.getT_eq s)
def lo0 : List PySem.Str := ["LongrankError", "DomainError", "ShapeError", "SingularError", "common", "divisor", "is_prime", "fraction", "MOST_PRIME", "is_integer", "is_domain", "is_field", "need_domain", "need_field", "zero", "one", "from_integer", "trimmed", "add", "multiply", "inverse", "quotient", "need_shape", "need_square", "identity", "zero_matrix", "plus", "dot", "times", "scaled"]
def lo1 : List PySem.Str := ["transposed", "may_change", "changed", "change", "evaluated", "_law_start", "_law_fill", "_law_take", "_law_raised", "_law_common", "_law_fraction", "_law_zero", "_law_strip", "_law_number", "_law_part", "_law_add", "_law_multiply", "_law_subtract", "_law_power", "_law_inverse", "_law_some_prime", "_law_field", "_law_domain", "_law_integer", "_law_element", "_law_small", "_law_matrix", "_law_dot", "_law_column", "_law_product"]
def lo2 : List PySem.Str := ["_law_identity", "_law_shape", "_law_changed", "_law_told", "_law_same", "_law_part_a", "_law_part_b"]
def loose : List PySem.Str := lo0 ++ lo1 ++ lo2
open PySem.W HandSHeadRun in
theorem r1 (w : World) (os : PySem.OsState) : ((endF (stepQ (denQ tabQ) R.prog w) 20000 R.prog w os).map fun s => looksF R.prog (boot_heap w.params) s.abs) = some true := by kernel_rfl
open PySem.W HandSHeadRun in
theorem r2 (w : World) (os : PySem.OsState) : ((endF (stepQ (denQ tabQ) R.prog w) 20000 R.prog w os).map fun s => seenQ (PySem.W.view R.prog [72]) loose (PySem.importedModules R.prog.main.body) (fun s => xlAt (PySem.W.view R.prog [72]) [] s && recOk R.toRowW.records s) s.abs) = some (openGood (PySem.W.view R.prog [72]) loose) := by kernel_rfl
open PySem.W HandSHeadRun in
theorem r3 (w : World) (os : PySem.OsState) : ((endF (stepQ (denQ tabQ) R.prog w) 20000 R.prog w os).map fun s => ob s) = some (hk.val w) := by kernel_rfl
theorem run (w : World) : HandSHeadRun.RunEq R (PySem.W.view R.prog [72]) hk ob 20000 loose w := fun os => So.map3 (r1 w os) (r2 w os) (r3 w os)
theorem bare : R.prog.bare := ⟨rfl, rfl, rfl, rfl, rfl, by decide +kernel⟩
open PySem PySem.W PySem.Calls PyProof.Rows in
theorem fin (hc : PySem.W.WalkO (PySem.W.view R.prog [72]) loose (PySem.W.XL (PySem.W.view R.prog [72]) []) hk.says R.toRowW (HandSHeadRun.topDef R.prog 72) [] (fun f vs => PySem.call f vs)) : PySem.Challenge.rw_longrank_k23_changes_of_domain_and_more.Holds := by
  w_on; o_law
  refine HandSHeadRun.head_any (r := R) (q := PySem.W.view R.prog [72]) (H := hk) (ob := ob) (M := 20000) (loose := loose) (d := HandSHeadRun.topDef R.prog 72) (kwd := []) ob_eq
    (by kernel_rfl) (fun s => by kernel_rfl) run (by kernel_rfl) (by kernel_rfl) (by kernel_rfl) (by rfl) (by first | assumption | decide +kernel) (by decide +kernel) bare ?hw ?hc
  case hw => w_witness2
  case hc => exact hc
end Rwk23
namespace So
open PySem PySem.Spec PyProof.Rows L2
section
variable {prog : Program} {w : World} {A : Around} {E : Value → Shared → Prop} {s : Shared}
theorem sliceApplied_rev {sl : Addr} {vl vu vs : Value} {n : Nat} {Q : Int × Int × Nat → Shared → Prop} (hs : s.heap.IsSliceOf sl vl vu vs) (pl : IsPart vl none) (pu : IsPart vu none) (ps : IsPart vs (some (-1)))
    (h : Q ((n : Int) - 1, -1, n) s) : wpAny (model prog w) A (Builtin.Slice.sliceApplied (.ref sl) (pure (n : Int))) Q E s := by
  obtain ⟨os, hos, hcs, hds⟩ := id hs
  unfold Builtin.Slice.sliceApplied Builtin.Slice.sliceFields
  refine wpAny_bind (wpAny_bind (wpAny_field hos hds (x := vl) rfl (wpAny_bind (wpAny_field hos hds (x := vu) rfl (wpAny_bind (wpAny_field hos hds (x := vs) rfl (wpAny_pure ?_)))))))
  refine wpAny_bind (HT.slicePart_ ps ?_)
  show wpAny _ _ (if ((-1 : Int) == 0) = true then _ else _) _ _ s
  rw [if_neg (by decide)]
  refine wpAny_bind (HT.slicePart_ pl (wpAny_bind (HT.slicePart_ pu (wpAny_bind (wpAny_pure ?_)))))
  have e : Builtin.Slice.sliceAdjust none none (-1) (n : Int) = ((n : Int) - 1, -1) := rfl
  have e2 : Builtin.Slice.slicePlaces ((n : Int) - 1) (-1) (-1) = n := by
    unfold Builtin.Slice.slicePlaces
    have h1 : ¬ ((-1 : Int) > 0) := by omega
    simp only [h1, if_false]
    by_cases h : (n : Int) - 1 > -1
    · simp only [h, if_true]
      rw [show (- -1 : Int) = 1 by decide, Int.ediv_one]
      omega
    · simp only [h, if_false]
      omega
  show wpAny _ _ (match Builtin.Slice.sliceAdjust none none (-1) (n : Int) with | (lo, hi) => pure (lo, (-1 : Int), Builtin.Slice.slicePlaces lo hi (-1))) _ _ s
  rw [e]
  show wpAny _ _ (pure ((n : Int) - 1, (-1 : Int), Builtin.Slice.slicePlaces ((n : Int) - 1) (-1) (-1))) _ _ s
  rw [e2]
  exact wpAny_pure h
theorem pick_rev (xs : Array Value) : ((List.range xs.size).filterMap fun (m : Nat) => xs[(((xs.size : Int) - 1) + (m : Int) * -1).toNat]?).toArray = xs.toList.reverse.toArray := by
  congr 1
  have e : ((List.range xs.size).filterMap fun (m : Nat) => xs[(((xs.size : Int) - 1) + (m : Int) * -1).toNat]?) = ((List.range xs.size).map fun (m : Nat) => xs.toList.reverse[m]?).filterMap id := by
    rw [List.filterMap_map]
    have gen : ∀ (l : List Nat) (f g : Nat → Option Value), (∀ m ∈ l, f m = g m) → l.filterMap f = l.filterMap g := fun l f g h => by
      induction l with
      | nil => rfl
      | cons x r ih => rw [List.filterMap_cons, List.filterMap_cons, h x List.mem_cons_self, ih fun m hm => h m (List.mem_cons_of_mem _ hm)]
    refine gen _ _ _ fun m hm => ?_
    have hm := List.mem_range.mp hm
    simp only [Function.comp_def, id]
    rw [List.getElem?_reverse (by simpa using hm)]
    have : (((xs.size : Int) - 1) + (m : Int) * -1).toNat = xs.size - 1 - m := by omega
    rw [this, Array.length_toList, Array.getElem?_toList]
  rw [e]
  have e2 : ∀ (l : List Value), ((List.range l.length).map fun (m : Nat) => l[m]?) = l.map some := fun l => by
    apply List.ext_getElem?
    intro i
    simp only [List.getElem?_map]
    by_cases hi : i < l.length
    · rw [List.getElem?_range hi]; simp [hi]
    · rw [List.getElem?_eq_none (by simpa using hi), List.getElem?_eq_none (by simpa using hi)]; rfl
  have e3 := e2 xs.toList.reverse
  rw [List.length_reverse, Array.length_toList] at e3
  rw [e3, List.filterMap_map]
  simp
theorem getItem_tuple_rev {t sl : Addr} {items : Array Value} {vl vu vs : Value} {Q : Value → Shared → Prop} (ht : IsTup s.heap t items) (hs : s.heap.IsSliceOf sl vl vu vs) (pl : IsPart vl none) (pu : IsPart vu none) (ps : IsPart vs (some (-1)))
    (h : Q (.ref s.heap.objs.size) { s with heap := s.heap.push { cls := .type "tuple", data := .seq items.toList.reverse.toArray } })
    (hsz : items.size ≤ sizeLine) : wpAny (model prog w) A (getItem (.ref t) (.ref sl)) Q E s := by
  have htake : sizeOk (.seq items.toList.reverse.toArray) := by
    show items.toList.reverse.toArray.size ≤ sizeLine
    rw [List.size_toArray, List.length_reverse, Array.length_toList]
    exact hsz
  obtain ⟨os, hos, hcs, hds⟩ := id hs
  have hTs : s.TypeIs (.ref sl) "slice" := ⟨os, hos, hcs⟩
  unfold getItem
  try with_reducible refine wpAny_holding ?_
  first | refine wpAny_bind (wpAny_pure ?_) | skip
  refine wpAny_bind (wpAny_sequenceKey ht.typeIs (by decide) ?_)
  refine wpAny_bind (wpAny_callSpecial?_slot (name := Str.ofString "__getitem__") ht.typeIs PyProof.Rows.slot_tuple_getitem
    (wpAny_call_entry PyProof.Rows.slot_tuple_getitem ht.typeIs entry_tuple_getitem ?_ (args_tuple_getitem _ _)))
  show wpAny _ _ (Builtin.Tuple.tupleItemsOf (.ref t) >>= _) _ _ s
  refine wpAny_bind (tupleItemsOf_ ht ?_)
  refine wpAny_bind (wpAny_typeOf hTs ?_)
  rw [if_pos (by decide)]
  refine wpAny_bind (sliceApplied_rev hs pl pu ps ?_)
  have hno : ¬ ((((items.size : Int) - 1) == 0 && (-1 : Int) == 1 && items.size == items.size) = true) := by simp
  show wpAny _ _ (if ((((items.size : Int) - 1)) == 0 && (-1 : Int) == 1 && items.size == items.size) = true then _ else _) _ _ s
  rw [if_neg hno, pick_rev]
  first
    | exact wpAny_bind (m := Builtin.Tuple.tupleExact _) (wpAny_newObj_type (wpAny_pure ⟨_, rfl, wpAny_pure h⟩) htake)
    | exact wpAny_bind (m := Builtin.Tuple.tupleExact _) (wpAny_newObj_type (wpAny_bind (wpAny_pure (wpAny_pure ⟨_, rfl, wpAny_pure h⟩))) htake)
    | exact wpAny_bind (wpAny_bind (m := Builtin.Tuple.tupleExact _) (wpAny_newObj_type (wpAny_pure (wpAny_pure ⟨_, rfl, wpAny_pure h⟩)) htake))
    | exact wpAny_bind (wpAny_bind (m := Builtin.Tuple.tupleExact _) (wpAny_newObj_type (wpAny_pure ⟨_, rfl, wpAny_pure h⟩) htake))
end
/-- x[::-1] of a list or a tuple -/
def tRevA (K : PySem.W.Frag) (te : TE) : TE := fun σ H Q => te σ H fun x H1 => ∃ a xs, x = .ref a ∧ ((SqL K H1 a xs ∧ ∀ p, H1 p = none → Q (.ref p) (upd H1 p (.lst xs.reverse))) ∨ (SqT K H1 a xs ∧ ∀ p, H1 p = none → Q (.ref p) (upd H1 p (.tup xs.reverse))))
theorem _root_.L2.Vals.reverse' {vs : List V} {us : List Value} (r : Vals vs us) : Vals vs.reverse us.reverse := by
  induction r with
  | nil => exact .nil
  | cons a r ih => rw [List.reverse_cons, List.reverse_cons]; exact ih.append (.cons a .nil)
theorem pe_revA {X : L2.Cx} {e : Expr} {te : TE} {k : Nat} {p1 p2 p3 pos : Pos} (he : PE X e te) : PE X (.Subscript e (.Slice none none (some (.UnaryOp .USub (.Constant (.int 1) k p1) p2)) p3) pos) (tRevA X.K te) := by
  refine ⟨fun pins s σ H Q I h => ?_⟩
  refine Subscript_ (thn (he.run pins s σ H _ I h) fun v s1 ⟨x, H1, I1, r1, q1⟩ => ?_)
  obtain ⟨a, xs, ex, hx⟩ := q1
  subst ex
  cases r1
  have hst : PO X (some (.UnaryOp .USub (.Constant (.int 1) k p1) p2)) (tPart (tUn (rU fun i => .int (-i)) (tC (.int 1)))) := po_some (pe_un un_neg pe_int)
  refine wpAny_Slice (thn (po_none.run pins s1 σ H1 (fun o H2 => o = none ∧ H2 = H1) I1 ⟨rfl, rfl⟩) fun vl s2 ⟨l, H2, I2, pl, el, e2⟩ => ?_)
  subst el e2
  refine thn (po_none.run pins s2 σ H2 (fun o H3 => o = none ∧ H3 = H2) I2 ⟨rfl, rfl⟩) fun vu s3 ⟨u, H3, I3, pu, eu, e3⟩ => ?_
  subst eu e3
  refine thn (hst.run pins s3 σ H3 (fun o H4 => o = some (-1) ∧ H4 = H3) I3 ⟨1, rfl, -1, rfl, rfl, rfl⟩) fun vs s4 ⟨o, H4, I4, ps, eo, e4⟩ => ?_
  subst eo e4
  have I5 : Inv X pins σ H4 { s4 with heap := s4.heap.push { cls := .type "slice", data := .fields #[vl, vu, vs] } } := I4.kept (t' := s4.toks) fun b ob q => Heap.get?_push_of_some _ q
  show wpAny (model X.prog X.w) X.A (subscriptTail e (.Slice none none (some (.UnaryOp .USub (.Constant (.int 1) k p1) p2)) p3) (.ref a) (.ref s4.heap.objs.size)) (EP X pins σ Q) X.xe { s4 with heap := s4.heap.push { cls := .type "slice", data := .fields #[vl, vu, vs] } }
  rcases hx with ⟨hx, q⟩ | ⟨hx, q⟩
  · obtain ⟨its, r, ht, hz⟩ := I5.list hx
    have hlen := r.length
    refine tail_any (ops := [.ref a, .ref s4.heap.objs.size]) ht.isList.typeIs (PySem.slot_list_getitem.lookup) ?_ (by with_unfolding_all rfl)
    refine wpAny_getItem_list_slice ht.isList (Heap.IsSliceOf.new _ vl vu vs) pl pu ps (by decide) ?_ (by rw [List.size_toArray]; omega)
    rw [PySem.W.krv_pick]
    refine ⟨.ref _, _, I5.laid (t' := s4.toks) (o := .lst xs.reverse) (fun b ob q => Heap.get?_push_of_some _ q) (Nat.le_refl _) ?_, rfl, q _ (I5.hok.fresh (Nat.le_refl _))⟩
    exact ⟨by rw [List.length_reverse]; exact hz, _, 0, r.reverse', Heap.get?_push_size _ rfl⟩
  · obtain ⟨its, r, ht, hz⟩ := I5.tuple hx
    have hlen := r.length
    refine tail_any (ops := [.ref a, .ref s4.heap.objs.size]) ht.typeIs (PyProof.Rows.slot_tuple_getitem.lookup) ?_ (by with_unfolding_all rfl)
    refine getItem_tuple_rev ht (Heap.IsSliceOf.new _ vl vu vs) pl pu ps ?_ (by rw [List.size_toArray]; omega)
    refine ⟨.ref _, _, I5.laid (t' := s4.toks) (o := .tup xs.reverse) (fun b ob q => Heap.get?_push_of_some _ q) (Nat.le_refl _) ?_, rfl, q _ (I5.hok.fresh (Nat.le_refl _))⟩
    exact ⟨by rw [List.length_reverse]; exact hz, _, r.reverse', IsTup.new _ _⟩
end So
namespace So
open PySem PySem.Spec PyProof.Rows L2
section
variable {prog : Program} {w : World} {A : Around} {E : Value → Shared → Prop} {s : Shared}
theorem collect_tup {l : Addr} {vs : List Value} {Q : List Value → Shared → Prop} (hl : IsTup s.heap l vs.toArray)
    (h : Q vs { s with heap := (s.heap.push (seqObj "list" #[] 0)).update s.heap.objs.size (Obj.mapSeq (· ++ vs.toArray)) }) (hsz : vs.length ≤ sizeLine) :
    wpAny (model prog w) A (collect (.ref l)) Q E s := by
  obtain ⟨o, ho, hc, n, hd⟩ := id hl
  unfold collect
  refine wpAny_bind (wpAny_runValue (codeAny_builtin entry_proto_collect' ?_))
  show wpAny _ _ (do again (.builtin "list.__iadd__" ⟨[← newList [], .ref l], []⟩)) _ _ s
  refine wpAny_bind (wpAny_newList (wpAny_pure ⟨Code.quiet_builtin _ (by decide +kernel), codeAny_builtin entry_list_iadd' ?_⟩))
  show wpAny _ _ (Builtin.List.listExtendWith (.ref s.heap.objs.size) (.ref l) (.ref s.heap.objs.size)) _ _ { s with heap := s.heap.push (seqObj "list" #[] 0) }
  unfold Builtin.List.listExtendWith
  have ho' : (s.heap.push (seqObj "list" #[] 0)).get? l = some o := Heap.get?_push_of_some _ ho
  refine wpAny_bind (wpAny_typeOf (T := "tuple") ⟨o, ho', hc⟩ ?_)
  have ht : (Value.type "tuple" == Value.type "tuple") = true := by rfl
  rw [if_pos (by rw [ht]; simp)]
  refine wpAny_bind (listItems_at ho' hd ?_)
  refine wpAny_bind (listItems_at (xs := #[]) (n := 0) (Heap.get?_push_size _ rfl) rfl ?_)
  rw [if_neg (by simp)]
  refine wpAny_bind (listUpdate_at (xs := #[]) (n := 0) (Heap.get?_push_size _ rfl) rfl ?_ (Nat.zero_le _) (by show (#[] ++ vs.toArray).size ≤ sizeLine + 1; simp only [Array.size_append, List.size_toArray, List.length_nil]; omega))
  refine wpAny_pure ?_
  show wpAny (model prog w) A (do
      let o ← load s.heap.objs.size
      match o.data with
      | .seq xs _ => pure xs.toList
      | _ => unsupported "internal:collect") Q E { s with heap := (s.heap.push (seqObj "list" #[] 0)).update s.heap.objs.size (Obj.mapSeq (· ++ vs.toArray)) }
  refine wpAny_bind (wpAny_load (get?_update_seq (Heap.get?_push_size _ rfl) _) ?_)
  show wpAny _ _ (pure ((#[] : Array Value) ++ vs.toArray).toList) Q E _
  rw [show ((#[] : Array Value) ++ vs.toArray).toList = vs by simp]
  exact wpAny_pure h
theorem sorted_tup {l : Addr} {vs : List Value} {ns : List Int} {Q : Value → Shared → Prop} (hl : IsTup s.heap l vs.toArray) (hI : IntsAre vs ns) (h64 : vs.length < 64)
    (h : ∀ (out : Array Value) (ns' : List Int), IntsAre out.toList ns' → ns'.Perm ns → ns'.Pairwise (· ≤ ·) → Q (.ref (s.heap.objs.size + 1)) { s with heap := sortedAll s.heap vs out }) :
    wpAny (model prog w) A (call (.builtin "sorted") [.ref l]) Q E s := by
  refine Calls.call_function_entry kind_sorted plain_sorted entry_sorted (args_sorted1 _) ?_
  unfold Builtin.«sorted»
  refine wpAny_bind (m := checkCount "sorted" 1 1 _) (wpAny_pure ?_)
  refine wpAny_bind (collect_tup hl ?_ (small64 h64))
  refine wpAny_bind (wpAny_newList ?_)
  have hsz : ((s.heap.push (seqObj "list" #[] 0)).update s.heap.objs.size (Obj.mapSeq (· ++ vs.toArray))).objs.size = s.heap.objs.size + 1 := by
    rw [Heap.size_update]; simp [Heap.push]
  have hoL : (((s.heap.push (seqObj "list" #[] 0)).update s.heap.objs.size (Obj.mapSeq (· ++ vs.toArray))).push (seqObj "list" vs.toArray 0)).get? (s.heap.objs.size + 1) = some (seqObj "list" vs.toArray 0) := by
    rw [← hsz]; exact Heap.get?_push_size _ rfl
  show wpAny _ _ _ _ _ { s with heap := ((s.heap.push (seqObj "list" #[] 0)).update s.heap.objs.size (Obj.mapSeq (· ++ vs.toArray))).push (seqObj "list" vs.toArray 0) }
  rw [hsz]
  refine wpAny_bind (wpAny_holding (wpAny_call_entry slot_list_sort ⟨_, hoL, rfl⟩ entry_list_sort (list_sort_tree hoL hI h64 fun out ns' a1 a2 a3 => ⟨_, rfl, ?_⟩) (args_list_sort _)))
  exact wpAny_pure ⟨_, rfl, h out ns' a1 a2 a3⟩
end
section
variable {X : L2.Cx}
def rSortedT (K : PySem.W.Frag) : List V → Hp → VK → Prop := fun vs H Q => ∃ (a : Addr) (ns : List Int), vs = [V.ref a] ∧ SqT K H a (ns.map V.int) ∧ ns.length < 64 ∧
  ∀ (ns' : List Int) (p : Addr), ns'.Perm ns → ns'.Pairwise (· ≤ ·) → H p = none → Q (.ref p) (upd H p (.lst (ns'.map V.int)))
theorem cr_sortedT : CallR X (.builtin "sorted") (rSortedT X.K) := by
  intro pins s σ H vs us Q I r h
  obtain ⟨a, ns, rfl, hs, h64, q⟩ := h
  obtain ⟨its, rv, hl, _⟩ := I.tuple hs
  rw [Vals.ref1 r]
  have hi := rv.ints
  refine sorted_tup hl hi (by rw [hi.length]; exact h64) fun out ns' h1 h2 h3 => ?_
  obtain ⟨ep, he'⟩ := PyProof.Rows.sortedAll_at s.heap its out
  have hlen : (ns'.map V.int).length ≤ sizeLine := by rw [List.length_map, h2.length_eq]; exact small64 h64
  exact ⟨.ref _, upd H (s.heap.objs.size + 1) (.lst (ns'.map V.int)), I.laid (t' := s.toks) (fun _ _ => PyProof.Rows.sortedAll_old) (Nat.le_succ _) ⟨hlen, out.toList, ep, vals_of_ints h1, he'⟩, rfl, q ns' _ h2 h3 (I.hok.fresh (Nat.le_succ _))⟩
end
/-! ### any(t) of a tuple of integers -/
theorem truth_intsT {prog : Program} {w : World} {A : Around} {ns : List Int} {its : List Value} (e : Vals (ns.map V.int) its) :
    PySem.TruthOf prog w A (fun i v => its.toArray[i]? = some v) (fun i => ns.getD i 0 != 0) := fun i v s Q E hv hq => by
  have hv' : its[i]? = some v := by simpa using hv
  have key : ∀ {its : List Value} {ns : List Int}, IntsAre its ns → ∀ (i : Nat) (v : Value), its[i]? = some v → ∃ t, v = Value.int (ns.getD i 0) t := fun {its ns} h => by
    induction h with
    | nil => intro i v hv; simp at hv
    | @cons n t vs ns _ ih =>
      intro i v hv
      cases i with
      | zero =>
        simp at hv
        exact ⟨t, by rw [← hv]; rfl⟩
      | succ i =>
        simp at hv
        obtain ⟨t', ht⟩ := ih i v hv
        exact ⟨t', by rw [ht]; simp⟩
  obtain ⟨t, rfl⟩ := key (Vals.ints e) i v hv'
  first | exact PyProof.Rows.truthy_int hq | exact truthy_int hq
theorem anyT_range : ∀ ns : List Int, (List.range ns.length).any (fun i => ns.getD i 0 != 0) = ns.any fun i => i != 0
  | [] => rfl
  | b :: bs => by
    rw [List.length_cons, List.range_succ_eq_map, List.any_cons, List.any_map, List.any_cons, ← anyT_range bs]
    all_goals rfl
def rAnyT (K : PySem.W.Frag) : List V → Hp → VK → Prop := fun vs H Q => ∃ (a : Addr) (ns : List Int), vs = [V.ref a] ∧ SqT K H a (ns.map V.int) ∧ Q (.bl (ns.any fun i => i != 0)) H
theorem cr_anyT {X : Cx} (hc : X.calm = true) : CallR X (.builtin "any") (rAnyT X.K) := by
  intro pins s σ H vs us Q I r h
  obtain ⟨a, ns, rfl, hs, q⟩ := h
  obtain ⟨its, rv, hl, _⟩ := I.tuple hs
  rw [Vals.ref1 r]
  have hlt : a < s.heap.objs.size := by obtain ⟨_, e, _⟩ := hl; exact Heap.lt_size e
  have hl' : s.heap.IsTuple a its.toArray := hl
  refine call_any_walk (wpAny_pyIter_tuple hl' ?_)
  refine ⟨_, _, _, _, _, _, _, rfl, Walks.tuple (A := X.A.in1) (I.ok.hd hc) _ a (Nat.ne_of_lt hlt) its.toArray, ⟨⟨_, Heap.get?_push_size _ rfl, rfl, rfl⟩, hl'.push _⟩, truth_intsT rv, fun h' tk hk => ?_⟩
  refine ⟨.bl _, H, I.kept fun b o eo => hk b o (fun hmem => ?_) (Heap.get?_push_of_some _ eo), ?_, q⟩
  · rcases List.mem_cons.mp hmem with e1 | hmem
    · exact absurd (e1 ▸ Heap.lt_size eo) (Nat.lt_irrefl _)
    · cases hmem
  · show Value.bool _ = Value.bool _
    have hlen : its.length = ns.length := by
      have := Paired.length rv
      rw [List.length_map] at this
      exact this.symm
    rw [← anyT_range, List.size_toArray, hlen]
end So
namespace So
open PySem PySem.Spec PyProof.Rows L2
/-! ### how a value lies in the abstract heap -/
/-- the store's cells; and what is hidden: lists that nothing of ours may hold -/
structure Ph where
  cs : List Addr
  hd : List Addr
def Ph.out (φ : Ph) (a : Addr) : Prop := a ∉ φ.cs ∧ a ∉ φ.hd
/-- a tuple at a, for ever -/
def TupS (K : PySem.W.Frag) (φ : Ph) (H : Hp) (a : Addr) (vs : List V) : Prop :=
  (H a = some (.tup vs) ∧ φ.out a) ∨ (∃ o, H a = some (.frz o (.tup vs)) ∧ φ.out a) ∨
    ∃ (o : Obj) (its : Array Value) (n : Nat), K.lookup a = some o ∧ o.cls = .type "tuple" ∧ o.data = .seq its n ∧ its.size ≤ sizeLine ∧ Vals vs its.toList
/-- a list at a that never changes -/
def LstS (K : PySem.W.Frag) (φ : Ph) (H : Hp) (a : Addr) (vs : List V) : Prop :=
  (H a = some (.lst vs) ∧ φ.out a) ∨ (∃ o, H a = some (.frz o (.lst vs)) ∧ φ.out a) ∨
    ∃ (o : Obj) (its : Array Value) (n : Nat), K.lookup a = some o ∧ o.cls = .type "list" ∧ o.dict = none ∧ o.data = .seq its n ∧ its.size ≤ sizeLine ∧ Vals vs its.toList
theorem TupS.sq {K : PySem.W.Frag} {φ : Ph} {H : Hp} {a : Addr} {vs : List V} (h : TupS K φ H a vs) : SqT K H a vs := by
  rcases h with ⟨h, _⟩ | ⟨o, h, _⟩ | h
  · exact .inl (.inl h)
  · exact .inl (.inr ⟨o, h⟩)
  · exact .inr h
theorem LstS.sq {K : PySem.W.Frag} {φ : Ph} {H : Hp} {a : Addr} {vs : List V} (h : LstS K φ H a vs) : SqL K H a vs := by
  rcases h with ⟨h, _⟩ | ⟨o, h, _⟩ | h
  · exact .inl (.inl h)
  · exact .inl (.inr ⟨o, h⟩)
  · exact .inr h
mutual
inductive Rep (K : PySem.W.Frag) (φ : Ph) (H : Hp) : V → Lg.D → Prop
  | non : Rep K φ H .non .non
  | bl (b : Bool) : Rep K φ H (.bl b) (.bl b)
  | int (i : Int) : Rep K φ H (.int i) (.int i)
  | str (s : String) : Rep K φ H (.str (Str.ofString s)) (.str s)
  | tup {a : Addr} {vs : List V} {ds : List Lg.D} : TupS K φ H a vs → Reps K φ H vs ds → Rep K φ H (.ref a) (.tup ds)
  | scr {a : Addr} {vs : List V} {ds : List Lg.D} : H a = some (.lst vs) → φ.out a → Reps K φ H vs ds → Rep K φ H (.ref a) (.scr ds)
  | fro {a : Addr} {vs : List V} {ds : List Lg.D} : LstS K φ H a vs → Reps K φ H vs ds → Rep K φ H (.ref a) (.fro ds)
  | ref {l : Nat} {a : Addr} : φ.cs[l]? = some a → Rep K φ H (.ref a) (.ref l)
  | fn (x : String) : Rep K φ H (.ref (He.ga K (Str.ofString x))) (.fn x)
  | obj {l : Nat} {a : Addr} : φ.cs[l]? = some a → Rep K φ H (.ref a) (.obj l)
inductive Reps (K : PySem.W.Frag) (φ : Ph) (H : Hp) : List V → List Lg.D → Prop
  | nil : Reps K φ H [] []
  | cons {v : V} {vs : List V} {d : Lg.D} {ds : List Lg.D} : Rep K φ H v d → Reps K φ H vs ds → Reps K φ H (v :: vs) (d :: ds)
end
/-- the heap goes on: what is no cell of ours stays, new cells are new -/
structure Grow (φ : Ph) (H : Hp) (φ' : Ph) (H' : Hp) : Prop where
  pre : φ.cs <+: φ'.cs
  hid : φ'.hd = φ.hd
  new : ∀ b ∈ φ'.cs, b ∈ φ.cs ∨ H b = none
  fr : ∀ b o, H b = some o → b ∉ φ.cs → H' b = some o
theorem Grow.refl (φ : Ph) (H : Hp) : Grow φ H φ H := ⟨List.prefix_refl _, rfl, fun _ h => .inl h, fun _ _ h _ => h⟩
theorem Grow.trans {φ φ1 φ2 : Ph} {H H1 H2 : Hp} (g : Grow φ H φ1 H1) (g' : Grow φ1 H1 φ2 H2) : Grow φ H φ2 H2 where
  pre := g.pre.trans g'.pre
  hid := g'.hid.trans g.hid
  new := fun b hb => by
    rcases g'.new b hb with h | h
    · exact g.new b h
    · cases e : H b with
      | none => exact .inr rfl
      | some o =>
        by_cases hm : b ∈ φ.cs
        · exact .inl hm
        · have := g.fr b o e hm
          rw [h] at this; cases this
  fr := fun b o e hb => by
    refine g'.fr b o (g.fr b o e hb) fun hm => ?_
    rcases g.new b hm with h | h
    · exact hb h
    · rw [e] at h; cases h
/-- the same, where more may be hidden: what was new -/
structure GrowH (φ : Ph) (H : Hp) (φ' : Ph) (H' : Hp) : Prop where
  pre : φ.cs <+: φ'.cs
  hid : ∀ b ∈ φ'.hd, b ∈ φ.hd ∨ H b = none
  new : ∀ b ∈ φ'.cs, b ∈ φ.cs ∨ H b = none
  fr : ∀ b o, H b = some o → b ∉ φ.cs → H' b = some o
theorem Grow.h {φ φ' : Ph} {H H' : Hp} (g : Grow φ H φ' H') : GrowH φ H φ' H' := ⟨g.pre, fun b hb => .inl (by rw [← g.hid]; exact hb), g.new, g.fr⟩
instance {φ φ' : Ph} {H H' : Hp} : Coe (Grow φ H φ' H') (GrowH φ H φ' H') := ⟨Grow.h⟩
theorem GrowH.outc {φ φ' : Ph} {H H' : Hp} (g : GrowH φ H φ' H') {b : Addr} {o : HO} (e : H b = some o) (hb : b ∉ φ.cs) : b ∉ φ'.cs := fun hm => by
  rcases g.new b hm with h | h
  · exact hb h
  · rw [e] at h; cases h
theorem GrowH.out {φ φ' : Ph} {H H' : Hp} (g : GrowH φ H φ' H') {b : Addr} {o : HO} (e : H b = some o) (hb : φ.out b) : φ'.out b := ⟨g.outc e hb.1, fun hm => by
  rcases g.hid b hm with h | h
  · exact hb.2 h
  · rw [e] at h; cases h⟩
theorem GrowH.get {φ φ' : Ph} {H H' : Hp} (g : GrowH φ H φ' H') {l : Nat} {a : Addr} (e : φ.cs[l]? = some a) : φ'.cs[l]? = some a := by
  obtain ⟨r, hr⟩ := g.pre
  rw [← hr, List.getElem?_append_left (List.getElem?_eq_some_iff.mp e).1]
  exact e
theorem GrowH.then {φ φ1 φ2 : Ph} {H H1 H2 : Hp} (g : GrowH φ H φ1 H1) (g' : Grow φ1 H1 φ2 H2) : GrowH φ H φ2 H2 where
  pre := g.pre.trans g'.pre
  hid := fun b hb => g.hid b (by rw [← g'.hid]; exact hb)
  new := fun b hb => by
    rcases g'.new b hb with h | h
    · exact g.new b h
    · cases e : H b with
      | none => exact .inr rfl
      | some o =>
        by_cases hm : b ∈ φ.cs
        · exact .inl hm
        · have := g.fr b o e hm
          rw [h] at this; cases this
  fr := fun b o e hb => by
    refine g'.fr b o (g.fr b o e hb) fun hm => ?_
    rcases g.new b hm with h | h
    · exact hb h
    · rw [e] at h; cases h
theorem Grow.outc {φ φ' : Ph} {H H' : Hp} (g : Grow φ H φ' H') {b : Addr} {o : HO} (e : H b = some o) (hb : b ∉ φ.cs) : b ∉ φ'.cs := g.h.outc e hb
theorem Grow.out {φ φ' : Ph} {H H' : Hp} (g : Grow φ H φ' H') {b : Addr} {o : HO} (e : H b = some o) (hb : φ.out b) : φ'.out b := g.h.out e hb
theorem Grow.get {φ φ' : Ph} {H H' : Hp} (g : Grow φ H φ' H') {l : Nat} {a : Addr} (e : φ.cs[l]? = some a) : φ'.cs[l]? = some a := g.h.get e
theorem TupS.grow {K : PySem.W.Frag} {φ φ' : Ph} {H H' : Hp} {a : Addr} {vs : List V} (g : GrowH φ H φ' H') (h : TupS K φ H a vs) : TupS K φ' H' a vs := by
  rcases h with ⟨h, n⟩ | ⟨o, h, n⟩ | h
  · exact .inl ⟨g.fr _ _ h n.1, g.out h n⟩
  · exact .inr (.inl ⟨o, g.fr _ _ h n.1, g.out h n⟩)
  · exact .inr (.inr h)
theorem LstS.grow {K : PySem.W.Frag} {φ φ' : Ph} {H H' : Hp} {a : Addr} {vs : List V} (g : GrowH φ H φ' H') (h : LstS K φ H a vs) : LstS K φ' H' a vs := by
  rcases h with ⟨h, n⟩ | ⟨o, h, n⟩ | h
  · exact .inl ⟨g.fr _ _ h n.1, g.out h n⟩
  · exact .inr (.inl ⟨o, g.fr _ _ h n.1, g.out h n⟩)
  · exact .inr (.inr h)
section
variable {K : PySem.W.Frag} {φ φ' : Ph} {H H' : Hp}
mutual
theorem Rep.grow (g : GrowH φ H φ' H') : ∀ {v : V} {d : Lg.D}, Rep K φ H v d → Rep K φ' H' v d
  | _, _, .non => .non
  | _, _, .bl b => .bl b
  | _, _, .int i => .int i
  | _, _, .str s => .str s
  | _, _, .tup h r => .tup (h.grow g) (Reps.grow g r)
  | _, _, .scr h n r => .scr (g.fr _ _ h n.1) (g.out h n) (Reps.grow g r)
  | _, _, .fro h r => .fro (h.grow g) (Reps.grow g r)
  | _, _, .ref h => .ref (g.get h)
  | _, _, .fn x => .fn x
  | _, _, .obj h => .obj (g.get h)
theorem Reps.grow (g : GrowH φ H φ' H') : ∀ {vs : List V} {ds : List Lg.D}, Reps K φ H vs ds → Reps K φ' H' vs ds
  | _, _, .nil => .nil
  | _, _, .cons a r => .cons (Rep.grow g a) (Reps.grow g r)
end
theorem Reps.length : ∀ {vs : List V} {ds : List Lg.D}, Reps K φ H vs ds → vs.length = ds.length
  | _, _, .nil => rfl
  | _, _, .cons _ r => by simp [Reps.length r]
theorem Reps.get : ∀ {vs : List V} {ds : List Lg.D} {i : Nat} {d : Lg.D}, Reps K φ H vs ds → ds[i]? = some d → ∃ v, vs[i]? = some v ∧ Rep K φ H v d
  | _, _, i, _, .nil, e => by simp at e
  | _, _, 0, _, .cons a _, e => by simp at e; subst e; exact ⟨_, rfl, a⟩
  | _, _, i + 1, d, .cons _ r, e => by
    obtain ⟨v, h1, h2⟩ := Reps.get (i := i) (d := d) r (by simpa using e)
    exact ⟨v, by simpa using h1, h2⟩
theorem Reps.append : ∀ {vs us : List V} {ds es : List Lg.D}, Reps K φ H vs ds → Reps K φ H us es → Reps K φ H (vs ++ us) (ds ++ es)
  | _, _, _, _, .nil, s => s
  | _, _, _, _, .cons a r, s => .cons a (Reps.append r s)
theorem Reps.set {v : V} {d : Lg.D} (h : Rep K φ H v d) : ∀ {vs : List V} {ds : List Lg.D} (i : Nat), Reps K φ H vs ds → Reps K φ H (vs.set i v) (ds.set i d)
  | _, _, _, .nil => .nil
  | _, _, 0, .cons _ r => .cons h r
  | _, _, i + 1, .cons a r => .cons a (Reps.set h i r)
theorem Reps.take : ∀ {vs : List V} {ds : List Lg.D} (n : Nat), Reps K φ H vs ds → Reps K φ H (vs.take n) (ds.take n)
  | _, _, 0, _ => .nil
  | _, _, _ + 1, .nil => .nil
  | _, _, n + 1, .cons a r => .cons a (Reps.take n r)
theorem Reps.drop : ∀ {vs : List V} {ds : List Lg.D} (n : Nat), Reps K φ H vs ds → Reps K φ H (vs.drop n) (ds.drop n)
  | _, _, 0, r => r
  | _, _, _ + 1, .nil => .nil
  | _, _, n + 1, .cons _ r => Reps.drop n r
theorem Reps.dropLast {vs : List V} {ds : List Lg.D} (r : Reps K φ H vs ds) : Reps K φ H vs.dropLast ds.dropLast := by
  rw [List.dropLast_eq_take, List.dropLast_eq_take, r.length]
  exact r.take _
theorem Reps.flat : ∀ {vs : List V} {ds : List Lg.D} (k : Nat), Reps K φ H vs ds → Reps K φ H (List.replicate k vs).flatten (List.replicate k ds).flatten
  | _, _, 0, _ => .nil
  | _, _, k + 1, r => by
    rw [List.replicate_succ, List.replicate_succ, List.flatten_cons, List.flatten_cons]
    exact r.append (Reps.flat k r)
theorem Reps.intsD : ∀ {ns : List Int} {vs : List V} {ds : List Lg.D}, Reps K φ H vs ds → Lg.intsD ds = some ns → vs = ns.map V.int
  | ns, _, _, .nil, e => by simp [Lg.intsD] at e; subst e; rfl
  | ns, _, _, .cons a r, e => by
    cases a with
    | int i =>
      simp only [Lg.intsD] at e
      cases q : Lg.intsD _ with
      | none => rw [q] at e; cases e
      | some ms =>
        rw [q] at e
        have e' : i :: ms = ns := Option.some.inj e
        subst e'
        rw [Reps.intsD r q]; rfl
    | _ => simp [Lg.intsD] at e
theorem Reps.bools : ∀ {bs : List Bool} {vs : List V} {ds : List Lg.D}, Reps K φ H vs ds → Lg.bools ds = some bs → vs = bs.map V.bl
  | bs, _, _, .nil, e => by simp [Lg.bools] at e; subst e; rfl
  | bs, _, _, .cons a r, e => by
    cases a with
    | bl i =>
      simp only [Lg.bools] at e
      cases q : Lg.bools _ with
      | none => rw [q] at e; cases e
      | some ms =>
        rw [q] at e
        have e' : i :: ms = bs := Option.some.inj e
        subst e'
        rw [Reps.bools r q]; rfl
    | _ => simp [Lg.bools] at e
theorem reps_ints (ns : List Int) : Reps K φ H (ns.map V.int) (ns.map Lg.D.int) := by
  induction ns with
  | nil => exact .nil
  | cons n ns ih => exact .cons (.int n) ih
end
/-! ### the store -/
/-- what is known of a class whose instances have these fields -/
structure Kls (K : PySem.W.Frag) (C : String) (ns : List String) : Prop where
  cl : L2.Cls K (He.ga K (Str.ofString C))
  na : ∀ f ∈ ns, NoAttr K (He.ga K (Str.ofString C)) (Str.ofString f)
  nd : ns.Nodup
  few : ns.length < 1000
/-- the attributes of an instance -/
def fvs (ns : List String) (vs : List V) : List (Str × V) := (ns.map Str.ofString).zip vs
/-- an instance in the store -/
def InsS (K : PySem.W.Frag) (φ : Ph) (H : Hp) (l : Nat) (C : String) (ns : List String) (ds : List Lg.D) : Prop :=
  Kls K C ns ∧ ds.length ≤ ns.length ∧ ∃ a dx vs, φ.cs[l]? = some a ∧ H a = some (.ins (He.ga K (Str.ofString C)) dx (fvs ns vs)) ∧ Reps K φ H vs ds
structure RepSt (K : PySem.W.Frag) (φ : Ph) (H : Hp) (st : Lg.Store) : Prop where
  len : φ.cs.length = st.length
  nd : φ.cs.Nodup
  hid : ∀ b ∈ φ.hd, b ∉ φ.cs ∧ ∃ o, H b = some o
  cell : ∀ (l : Nat) (ds : List Lg.D), st[l]? = some (.lst ds) → ∃ a vs, φ.cs[l]? = some a ∧ H a = some (.lst vs) ∧ Reps K φ H vs ds
  icell : ∀ (l : Nat) (C : String) (ns : List String) (ds : List Lg.D), st[l]? = some (.ins C ns ds) → InsS K φ H l C ns ds
section
variable {K : PySem.W.Frag} {φ : Ph} {H : Hp} {st : Lg.Store}
theorem RepSt.tracked (r : RepSt K φ H st) {a : Addr} (ha : a ∈ φ.cs) : ∃ o, H a = some o := by
  obtain ⟨l, hl, e⟩ := List.getElem_of_mem ha
  have hl' : l < st.length := by rw [← r.len]; exact hl
  cases q : st[l] with
  | lst ds =>
    obtain ⟨b, vs, h1, h2, _⟩ := r.cell l ds (by rw [List.getElem?_eq_getElem hl', q])
    rw [List.getElem?_eq_getElem hl, e] at h1
    cases h1
    exact ⟨_, h2⟩
  | ins C ns ds =>
    obtain ⟨_, _, b, dx, vs, h1, h2, _⟩ := r.icell l C ns ds (by rw [List.getElem?_eq_getElem hl', q])
    rw [List.getElem?_eq_getElem hl, e] at h1
    cases h1
    exact ⟨_, h2⟩
theorem RepSt.out (r : RepSt K φ H st) {a : Addr} (h : H a = none) : φ.out a := by
  constructor
  · intro hm
    obtain ⟨vs, e⟩ := r.tracked hm
    rw [h] at e; cases e
  · intro hm
    obtain ⟨_, o, e⟩ := r.hid a hm
    rw [h] at e; cases e
/-- a new object that is no cell -/
theorem RepSt.lay (r : RepSt K φ H st) {p : Addr} (h : H p = none) (o : HO) : Grow φ H φ (upd H p o) ∧ RepSt K φ (upd H p o) st := by
  have ne : ∀ {b u}, H b = some u → b ≠ p := fun e z => by subst z; rw [h] at e; cases e
  have g : Grow φ H φ (upd H p o) := ⟨List.prefix_refl _, rfl, fun _ h => .inl h, fun b u e _ => by rw [upd_ne (ne e)]; exact e⟩
  refine ⟨g, r.len, r.nd, fun b hb => ?_, fun l ds e => ?_, fun l C ns ds e => ?_⟩
  · obtain ⟨h1, u, h2⟩ := r.hid b hb
    exact ⟨h1, u, by rw [upd_ne (ne h2)]; exact h2⟩
  · obtain ⟨a, vs, h1, h2, h3⟩ := r.cell l ds e
    exact ⟨a, vs, h1, by rw [upd_ne (ne h2)]; exact h2, h3.grow g⟩
  · obtain ⟨k1, k2, a, dx, vs, h1, h2, h3⟩ := r.icell l C ns ds e
    exact ⟨k1, k2, a, dx, vs, h1, by rw [upd_ne (ne h2)]; exact h2, h3.grow g⟩
abbrev Ph.snoc (φ : Ph) (p : Addr) : Ph := ⟨φ.cs ++ [p], φ.hd⟩
/-- a cell as it lies in the heap -/
def CellS (K : PySem.W.Frag) (φ : Ph) (H : Hp) (o : HO) : Lg.Cell → Prop
  | .lst ds => ∃ vs, o = .lst vs ∧ Reps K φ H vs ds
  | .ins C ns ds => Kls K C ns ∧ ds.length ≤ ns.length ∧ ∃ dx vs, o = .ins (He.ga K (Str.ofString C)) dx (fvs ns vs) ∧ Reps K φ H vs ds
theorem RepSt.allocC (r : RepSt K φ H st) {p : Addr} (h : H p = none) {o : HO} {c : Lg.Cell} (hv : CellS K φ H o c) :
    Grow φ H (φ.snoc p) (upd H p o) ∧ RepSt K (φ.snoc p) (upd H p o) (st ++ [c]) := by
  have ne : ∀ {b u}, H b = some u → b ≠ p := fun e z => by subst z; rw [h] at e; cases e
  have g : Grow φ H (φ.snoc p) (upd H p o) := ⟨List.prefix_append _ _, rfl, fun b hb => by
    rcases List.mem_append.mp hb with hb | hb
    · exact .inl hb
    · rw [List.mem_singleton.mp hb]; exact .inr h, fun b u e _ => by rw [upd_ne (ne e)]; exact e⟩
  have np := r.out h
  have hp : (φ.cs ++ [p])[st.length]? = some p := by
    rw [List.getElem?_append_right (by rw [r.len]; exact Nat.le_refl _), r.len]
    simp
  refine ⟨g, by simp [r.len], ?_, fun b hb => ?_, fun l es e => ?_, fun l C ns es e => ?_⟩
  · rw [List.nodup_append]
    exact ⟨r.nd, by simp, fun a ha b hb => by rw [List.mem_singleton.mp hb]; exact fun z => np.1 (z ▸ ha)⟩
  · obtain ⟨h1, u, h2⟩ := r.hid b hb
    exact ⟨g.outc h2 h1, u, g.fr _ _ h2 h1⟩
  · by_cases hl : l < st.length
    · rw [List.getElem?_append_left hl] at e
      obtain ⟨a, us, h1, h2, h3⟩ := r.cell l es e
      exact ⟨a, us, g.get h1, by rw [upd_ne (ne h2)]; exact h2, h3.grow g⟩
    · have hl' : l = st.length := by
        have := (List.getElem?_eq_some_iff.mp e).1
        simp at this; omega
      subst hl'
      simp at e
      subst e
      obtain ⟨vs, rfl, hv⟩ := hv
      exact ⟨p, vs, hp, upd_same, hv.grow g⟩
  · by_cases hl : l < st.length
    · rw [List.getElem?_append_left hl] at e
      obtain ⟨k1, k2, a, dx, us, h1, h2, h3⟩ := r.icell l C ns es e
      exact ⟨k1, k2, a, dx, us, g.get h1, by rw [upd_ne (ne h2)]; exact h2, h3.grow g⟩
    · have hl' : l = st.length := by
        have := (List.getElem?_eq_some_iff.mp e).1
        simp at this; omega
      subst hl'
      simp at e
      subst e
      obtain ⟨k1, k2, dx, vs, rfl, hv⟩ := hv
      exact ⟨k1, k2, p, dx, vs, hp, upd_same, hv.grow g⟩
/-- a new cell -/
theorem RepSt.alloc (r : RepSt K φ H st) {p : Addr} (h : H p = none) {vs : List V} {ds : List Lg.D} (hv : Reps K φ H vs ds) :
    Grow φ H (φ.snoc p) (upd H p (.lst vs)) ∧ RepSt K (φ.snoc p) (upd H p (.lst vs)) (st ++ [.lst ds]) := r.allocC h ⟨vs, rfl, hv⟩
/-- a cell changed -/
theorem RepSt.writeC (r : RepSt K φ H st) {l : Nat} {a : Addr} (h : φ.cs[l]? = some a) {o : HO} {c : Lg.Cell} (hv : CellS K φ H o c) :
    Grow φ H φ (upd H a o) ∧ RepSt K φ (upd H a o) (st.set l c) := by
  have ha : a ∈ φ.cs := List.mem_of_getElem? h
  have g : Grow φ H φ (upd H a o) := ⟨List.prefix_refl _, rfl, fun _ h => .inl h, fun b u e hb => by rw [upd_ne (show b ≠ a from fun z => hb (by rw [z]; exact ha))]; exact e⟩
  have hl : l < st.length := by rw [← r.len]; exact (List.getElem?_eq_some_iff.mp h).1
  have ne : ∀ {m b : Nat}, l ≠ m → φ.cs[m]? = some b → b ≠ a := fun hm h1 z => by
    subst z
    obtain ⟨hl, e1⟩ := List.getElem?_eq_some_iff.mp h
    obtain ⟨hm', e2⟩ := List.getElem?_eq_some_iff.mp h1
    exact hm ((List.getElem_inj r.nd).mp (e1.trans e2.symm))
  refine ⟨g, by simp [r.len], r.nd, fun b hb => ?_, fun m es e => ?_, fun m C ns es e => ?_⟩
  · obtain ⟨h1, u, h2⟩ := r.hid b hb
    exact ⟨h1, u, g.fr _ _ h2 h1⟩
  · by_cases hm : l = m
    · subst hm
      rw [List.getElem?_set_self hl] at e
      cases e
      obtain ⟨vs, rfl, hv⟩ := hv
      exact ⟨a, vs, h, upd_same, hv.grow g⟩
    · rw [List.getElem?_set_ne hm] at e
      obtain ⟨b, us, h1, h2, h3⟩ := r.cell m es e
      exact ⟨b, us, h1, by rw [upd_ne (ne hm h1)]; exact h2, h3.grow g⟩
  · by_cases hm : l = m
    · subst hm
      rw [List.getElem?_set_self hl] at e
      cases e
      obtain ⟨k1, k2, dx, vs, rfl, hv⟩ := hv
      exact ⟨k1, k2, a, dx, vs, h, upd_same, hv.grow g⟩
    · rw [List.getElem?_set_ne hm] at e
      obtain ⟨k1, k2, b, dx, us, h1, h2, h3⟩ := r.icell m C ns es e
      exact ⟨k1, k2, b, dx, us, h1, by rw [upd_ne (ne hm h1)]; exact h2, h3.grow g⟩
theorem RepSt.write (r : RepSt K φ H st) {l : Nat} {a : Addr} (h : φ.cs[l]? = some a) {vs : List V} {ds : List Lg.D} (hv : Reps K φ H vs ds) :
    Grow φ H φ (upd H a (.lst vs)) ∧ RepSt K φ (upd H a (.lst vs)) (st.set l (.lst ds)) := r.writeC h ⟨vs, rfl, hv⟩
/-- a read of a list, whatever it is -/
theorem RepSt.listOf (r : RepSt K φ H st) {v : V} {d : Lg.D} {ds : List Lg.D} (h : Rep K φ H v d) (e : Lg.listOf st d = some ds) : ∃ a vs, v = .ref a ∧ SqL K H a vs ∧ Reps K φ H vs ds := by
  cases h with
  | scr h1 h2 h3 => simp only [Lg.listOf] at e; cases e; exact ⟨_, _, rfl, .of h1, h3⟩
  | fro h1 h2 => simp only [Lg.listOf] at e; cases e; exact ⟨_, _, rfl, h1.sq, h2⟩
  | @ref l a h1 =>
    simp only [Lg.listOf] at e
    split at e
    · rename_i xs q
      cases e
      obtain ⟨b, vs, g1, g2, g3⟩ := r.cell l _ q
      rw [h1] at g1; cases g1
      exact ⟨_, vs, rfl, .of g2, g3⟩
    · cases e
  | _ => simp [Lg.listOf] at e
theorem RepSt.seqOf (r : RepSt K φ H st) {v : V} {d : Lg.D} {ds : List Lg.D} (h : Rep K φ H v d) (e : Lg.seqOf st d = some ds) : ∃ a vs, v = .ref a ∧ (SqL K H a vs ∨ SqT K H a vs) ∧ Reps K φ H vs ds := by
  cases h with
  | tup h1 h2 => simp only [Lg.seqOf] at e; cases e; exact ⟨_, _, rfl, .inr h1.sq, h2⟩
  | non => simp [Lg.seqOf, Lg.listOf] at e
  | bl b => simp [Lg.seqOf, Lg.listOf] at e
  | int i => simp [Lg.seqOf, Lg.listOf] at e
  | str s => simp [Lg.seqOf, Lg.listOf] at e
  | fn s => simp [Lg.seqOf, Lg.listOf] at e
  | obj h1 => simp [Lg.seqOf, Lg.listOf] at e
  | scr h1 h2 h3 => obtain ⟨a, vs, e1, e2, e3⟩ := r.listOf (.scr h1 h2 h3) (show Lg.listOf st _ = some ds from e); exact ⟨a, vs, e1, .inl e2, e3⟩
  | fro h1 h2 => obtain ⟨a, vs, e1, e2, e3⟩ := r.listOf (.fro h1 h2) (show Lg.listOf st _ = some ds from e); exact ⟨a, vs, e1, .inl e2, e3⟩
  | ref h1 => obtain ⟨a, vs, e1, e2, e3⟩ := r.listOf (.ref h1) (show Lg.listOf st _ = some ds from e); exact ⟨a, vs, e1, .inl e2, e3⟩
end
/-! ### hiding a list -/
section
variable {K : PySem.W.Frag} {φ : Ph} {H : Hp} {st : Lg.Store}
abbrev Ph.hide (φ : Ph) (D : Addr) : Ph := ⟨φ.cs, D :: φ.hd⟩
theorem TupS.hide {D : Addr} (hD : H D = none) {a : Addr} {vs : List V} (h : TupS K φ H a vs) : TupS K (φ.hide D) H a vs := by
  have o : ∀ {u}, H a = some u → φ.out a → (φ.hide D).out a := fun e n => ⟨n.1, fun hm => by
    rcases List.mem_cons.mp hm with z | z
    · subst z; rw [hD] at e; cases e
    · exact n.2 z⟩
  rcases h with ⟨h, n⟩ | ⟨u, h, n⟩ | h
  · exact .inl ⟨h, o h n⟩
  · exact .inr (.inl ⟨u, h, o h n⟩)
  · exact .inr (.inr h)
theorem LstS.hide {D : Addr} (hD : H D = none) {a : Addr} {vs : List V} (h : LstS K φ H a vs) : LstS K (φ.hide D) H a vs := by
  have o : ∀ {u}, H a = some u → φ.out a → (φ.hide D).out a := fun e n => ⟨n.1, fun hm => by
    rcases List.mem_cons.mp hm with z | z
    · subst z; rw [hD] at e; cases e
    · exact n.2 z⟩
  rcases h with ⟨h, n⟩ | ⟨u, h, n⟩ | h
  · exact .inl ⟨h, o h n⟩
  · exact .inr (.inl ⟨u, h, o h n⟩)
  · exact .inr (.inr h)
mutual
theorem Rep.hide {D : Addr} (hD : H D = none) : ∀ {v : V} {d : Lg.D}, Rep K φ H v d → Rep K (φ.hide D) H v d
  | _, _, .non => .non
  | _, _, .bl b => .bl b
  | _, _, .int i => .int i
  | _, _, .str s => .str s
  | _, _, .tup h r => .tup (h.hide hD) (Reps.hide hD r)
  | _, _, .scr h n r => .scr h ⟨n.1, fun hm => by
      rcases List.mem_cons.mp hm with z | z
      · subst z; rw [hD] at h; cases h
      · exact n.2 z⟩ (Reps.hide hD r)
  | _, _, .fro h r => .fro (h.hide hD) (Reps.hide hD r)
  | _, _, .ref h => .ref h
  | _, _, .fn x => .fn x
  | _, _, .obj h => .obj h
theorem Reps.hide {D : Addr} (hD : H D = none) : ∀ {vs : List V} {ds : List Lg.D}, Reps K φ H vs ds → Reps K (φ.hide D) H vs ds
  | _, _, .nil => .nil
  | _, _, .cons a r => .cons (Rep.hide hD a) (Reps.hide hD r)
end
/-- a new hidden list -/
theorem RepSt.hide (r : RepSt K φ H st) {D : Addr} (hD : H D = none) (o : HO) : RepSt K (φ.hide D) (upd H D o) st := by
  have ne : ∀ {b u}, H b = some u → b ≠ D := fun e z => by subst z; rw [hD] at e; cases e
  have g : Grow (φ.hide D) H (φ.hide D) (upd H D o) := ⟨List.prefix_refl _, rfl, fun _ h => .inl h, fun b u e _ => by rw [upd_ne (ne e)]; exact e⟩
  refine ⟨r.len, r.nd, fun b hb => ?_, fun l ds e => ?_, fun l C ns ds e => ?_⟩
  · rcases List.mem_cons.mp hb with z | z
    · subst z; exact ⟨(r.out hD).1, o, upd_same⟩
    · obtain ⟨h1, u, h2⟩ := r.hid b z
      exact ⟨h1, u, by rw [upd_ne (ne h2)]; exact h2⟩
  · obtain ⟨a, vs, h1, h2, h3⟩ := r.cell l ds e
    exact ⟨a, vs, h1, by rw [upd_ne (ne h2)]; exact h2, (h3.hide hD).grow g⟩
  · obtain ⟨k1, k2, a, dx, vs, h1, h2, h3⟩ := r.icell l C ns ds e
    exact ⟨k1, k2, a, dx, vs, h1, by rw [upd_ne (ne h2)]; exact h2, (h3.hide hD).grow g⟩
/-- the hidden list changes -/
theorem upd_hid {D : Addr} (hc : D ∉ φ.cs) (hd : D ∈ φ.hd) (o : HO) : (∀ {a vs}, TupS K φ H a vs → TupS K φ (upd H D o) a vs) ∧ (∀ {a vs}, LstS K φ H a vs → LstS K φ (upd H D o) a vs) ∧ ∀ {a u}, H a = some u → φ.out a → (upd H D o) a = some u := by
  have k : ∀ {a u}, H a = some u → φ.out a → (upd H D o) a = some u := fun {a u} e n => by
    rw [upd_ne fun z => n.2 (by rw [z]; exact hd)]; exact e
  refine ⟨fun h => ?_, fun h => ?_, k⟩
  · rcases h with ⟨h, n⟩ | ⟨u, h, n⟩ | h
    · exact .inl ⟨k h n, n⟩
    · exact .inr (.inl ⟨u, k h n, n⟩)
    · exact .inr (.inr h)
  · rcases h with ⟨h, n⟩ | ⟨u, h, n⟩ | h
    · exact .inl ⟨k h n, n⟩
    · exact .inr (.inl ⟨u, k h n, n⟩)
    · exact .inr (.inr h)
mutual
theorem Rep.hid {D : Addr} (hc : D ∉ φ.cs) (hd : D ∈ φ.hd) (o : HO) : ∀ {v : V} {d : Lg.D}, Rep K φ H v d → Rep K φ (upd H D o) v d
  | _, _, .non => .non
  | _, _, .bl b => .bl b
  | _, _, .int i => .int i
  | _, _, .str s => .str s
  | _, _, .tup h r => .tup ((upd_hid hc hd o).1 h) (Reps.hid hc hd o r)
  | _, _, .scr h n r => .scr ((upd_hid (K := K) hc hd o).2.2 h n) n (Reps.hid hc hd o r)
  | _, _, .fro h r => .fro ((upd_hid hc hd o).2.1 h) (Reps.hid hc hd o r)
  | _, _, .ref h => .ref h
  | _, _, .fn x => .fn x
  | _, _, .obj h => .obj h
theorem Reps.hid {D : Addr} (hc : D ∉ φ.cs) (hd : D ∈ φ.hd) (o : HO) : ∀ {vs : List V} {ds : List Lg.D}, Reps K φ H vs ds → Reps K φ (upd H D o) vs ds
  | _, _, .nil => .nil
  | _, _, .cons a r => .cons (Rep.hid hc hd o a) (Reps.hid hc hd o r)
end
theorem RepSt.hidw (r : RepSt K φ H st) {D : Addr} (hd : D ∈ φ.hd) (o : HO) : RepSt K φ (upd H D o) st := by
  obtain ⟨hc, _⟩ := r.hid D hd
  refine ⟨r.len, r.nd, fun b hb => ?_, fun l ds e => ?_, fun l C ns ds e => ?_⟩
  · by_cases z : b = D
    · subst z; exact ⟨hc, o, upd_same⟩
    · obtain ⟨h1, u, h2⟩ := r.hid b hb
      exact ⟨h1, u, by rw [upd_ne z]; exact h2⟩
  · obtain ⟨a, vs, h1, h2, h3⟩ := r.cell l ds e
    exact ⟨a, vs, h1, by rw [upd_ne fun z => hc (by rw [← z]; exact List.mem_of_getElem? h1)]; exact h2, h3.hid hc hd o⟩
  · obtain ⟨k1, k2, a, dx, vs, h1, h2, h3⟩ := r.icell l C ns ds e
    exact ⟨k1, k2, a, dx, vs, h1, by rw [upd_ne fun z => hc (by rw [← z]; exact List.mem_of_getElem? h1)]; exact h2, h3.hid hc hd o⟩
/-- the hidden list comes to light -/
theorem TupS.unhide {D : Addr} {a : Addr} {vs : List V} (h : TupS K (φ.hide D) H a vs) : TupS K φ H a vs := by
  rcases h with ⟨h, n⟩ | ⟨u, h, n⟩ | h
  · exact .inl ⟨h, n.1, fun z => n.2 (List.mem_cons_of_mem _ z)⟩
  · exact .inr (.inl ⟨u, h, n.1, fun z => n.2 (List.mem_cons_of_mem _ z)⟩)
  · exact .inr (.inr h)
theorem LstS.unhide {D : Addr} {a : Addr} {vs : List V} (h : LstS K (φ.hide D) H a vs) : LstS K φ H a vs := by
  rcases h with ⟨h, n⟩ | ⟨u, h, n⟩ | h
  · exact .inl ⟨h, n.1, fun z => n.2 (List.mem_cons_of_mem _ z)⟩
  · exact .inr (.inl ⟨u, h, n.1, fun z => n.2 (List.mem_cons_of_mem _ z)⟩)
  · exact .inr (.inr h)
mutual
theorem Rep.unhide {D : Addr} : ∀ {v : V} {d : Lg.D}, Rep K (φ.hide D) H v d → Rep K φ H v d
  | _, _, .non => .non
  | _, _, .bl b => .bl b
  | _, _, .int i => .int i
  | _, _, .str s => .str s
  | _, _, .tup h r => .tup h.unhide (Reps.unhide r)
  | _, _, .scr h n r => .scr h ⟨n.1, fun z => n.2 (List.mem_cons_of_mem _ z)⟩ (Reps.unhide r)
  | _, _, .fro h r => .fro h.unhide (Reps.unhide r)
  | _, _, .ref h => .ref h
  | _, _, .fn x => .fn x
  | _, _, .obj h => .obj h
theorem Reps.unhide {D : Addr} : ∀ {vs : List V} {ds : List Lg.D}, Reps K (φ.hide D) H vs ds → Reps K φ H vs ds
  | _, _, .nil => .nil
  | _, _, .cons a r => .cons (Rep.unhide a) (Reps.unhide r)
end
theorem RepSt.unhide {D : Addr} (r : RepSt K (φ.hide D) H st) : RepSt K φ H st := ⟨r.len, r.nd, fun b hb => r.hid b (List.mem_cons_of_mem _ hb), fun l ds e => let ⟨a, vs, h1, h2, h3⟩ := r.cell l ds e; ⟨a, vs, h1, h2, h3.unhide⟩, fun l C ns ds e => let ⟨k1, k2, a, dx, vs, h1, h2, h3⟩ := r.icell l C ns ds e; ⟨k1, k2, a, dx, vs, h1, h2, h3.unhide⟩⟩
end
section
variable {K : PySem.W.Frag} {φ : Ph} {H : Hp} {st : Lg.Store}
theorem hide_snoc {D a : Addr} (h : (φ.hide D).out a) : (φ.snoc D).out a := ⟨fun hm => by
  rcases List.mem_append.mp hm with z | z
  · exact h.1 z
  · exact h.2 (by rw [List.mem_singleton.mp z]; exact List.mem_cons_self), fun z => h.2 (List.mem_cons_of_mem _ z)⟩
theorem TupS.adopt {D : Addr} {a : Addr} {vs : List V} (h : TupS K (φ.hide D) H a vs) : TupS K (φ.snoc D) H a vs := by
  rcases h with ⟨h, n⟩ | ⟨u, h, n⟩ | h
  · exact .inl ⟨h, hide_snoc n⟩
  · exact .inr (.inl ⟨u, h, hide_snoc n⟩)
  · exact .inr (.inr h)
theorem LstS.adopt {D : Addr} {a : Addr} {vs : List V} (h : LstS K (φ.hide D) H a vs) : LstS K (φ.snoc D) H a vs := by
  rcases h with ⟨h, n⟩ | ⟨u, h, n⟩ | h
  · exact .inl ⟨h, hide_snoc n⟩
  · exact .inr (.inl ⟨u, h, hide_snoc n⟩)
  · exact .inr (.inr h)
theorem snoc_get {D : Addr} {l : Nat} {a : Addr} (h : φ.cs[l]? = some a) : (φ.snoc D).cs[l]? = some a := by
  show (φ.cs ++ [D])[l]? = some a
  rw [List.getElem?_append_left (List.getElem?_eq_some_iff.mp h).1]
  exact h
mutual
theorem Rep.adopt {D : Addr} : ∀ {v : V} {d : Lg.D}, Rep K (φ.hide D) H v d → Rep K (φ.snoc D) H v d
  | _, _, .non => .non
  | _, _, .bl b => .bl b
  | _, _, .int i => .int i
  | _, _, .str s => .str s
  | _, _, .tup h r => .tup h.adopt (Reps.adopt r)
  | _, _, .scr h n r => .scr h (hide_snoc n) (Reps.adopt r)
  | _, _, .fro h r => .fro h.adopt (Reps.adopt r)
  | _, _, .ref h => .ref (snoc_get h)
  | _, _, .fn x => .fn x
  | _, _, .obj h => .obj (snoc_get h)
theorem Reps.adopt {D : Addr} : ∀ {vs : List V} {ds : List Lg.D}, Reps K (φ.hide D) H vs ds → Reps K (φ.snoc D) H vs ds
  | _, _, .nil => .nil
  | _, _, .cons a r => .cons (Rep.adopt a) (Reps.adopt r)
end
/-- the hidden list becomes a cell -/
theorem RepSt.adopt {D : Addr} (r : RepSt K (φ.hide D) H st) (hd : D ∉ φ.hd) {vs : List V} {ds : List Lg.D} (eD : H D = some (.lst vs)) (hv : Reps K (φ.hide D) H vs ds) : RepSt K (φ.snoc D) H (st ++ [.lst ds]) := by
  have hc := (r.hid D List.mem_cons_self).1
  have len : φ.cs.length = st.length := r.len
  refine ⟨by simp [len], ?_, fun b hb => ?_, fun l es e => ?_, fun l C ns es e => ?_⟩
  · rw [List.nodup_append]
    exact ⟨r.nd, by simp, fun a ha b hb => by rw [List.mem_singleton.mp hb]; exact fun z => hc (z ▸ ha)⟩
  · obtain ⟨h1, u, h2⟩ := r.hid b (List.mem_cons_of_mem _ hb)
    exact ⟨fun hm => by
      rcases List.mem_append.mp hm with z | z
      · exact h1 z
      · exact hd (by rw [← List.mem_singleton.mp z]; exact hb), u, h2⟩
  · by_cases hl : l < st.length
    · rw [List.getElem?_append_left hl] at e
      obtain ⟨a, us, h1, h2, h3⟩ := r.cell l es e
      exact ⟨a, us, snoc_get h1, h2, h3.adopt⟩
    · have hl' : l = st.length := by
        have := (List.getElem?_eq_some_iff.mp e).1
        simp at this; omega
      subst hl'
      simp at e
      subst e
      refine ⟨D, vs, ?_, eD, hv.adopt⟩
      show (φ.cs ++ [D])[st.length]? = some D
      rw [List.getElem?_append_right (by rw [len]; exact Nat.le_refl _), len]
      simp
  · by_cases hl : l < st.length
    · rw [List.getElem?_append_left hl] at e
      obtain ⟨k1, k2, a, dx, us, h1, h2, h3⟩ := r.icell l C ns es e
      exact ⟨k1, k2, a, dx, us, snoc_get h1, h2, h3.adopt⟩
    · have hl' : l = st.length := by
        have := (List.getElem?_eq_some_iff.mp e).1
        simp at this; omega
      subst hl'
      simp at e
end
/-! ### names -/
structure REnv (K : PySem.W.Frag) (φ : Ph) (H : Hp) (σ : L2.St) (env : Lg.Env) : Prop where
  len : env.length = σ.length
  at_ : ∀ (i : Nat) (d : Lg.D), env[i]? = some (some d) → ∃ v, σ[i]? = some (some v) ∧ Rep K φ H v d
section
variable {K : PySem.W.Frag} {φ φ' : Ph} {H H' : Hp} {σ : L2.St} {env : Lg.Env}
theorem REnv.grow (r : REnv K φ H σ env) (g : GrowH φ H φ' H') : REnv K φ' H' σ env := ⟨r.len, fun i d e => let ⟨v, h1, h2⟩ := r.at_ i d e; ⟨v, h1, h2.grow g⟩⟩
theorem REnv.set (r : REnv K φ H σ env) {v : V} {d : Lg.D} (h : Rep K φ H v d) (i : Nat) : REnv K φ H (σ.set i (some v)) (env.set i (some d)) := by
  refine ⟨by simp [r.len], fun j e q => ?_⟩
  by_cases hj : i = j
  · subst hj
    by_cases hl : i < env.length
    · rw [List.getElem?_set_self hl] at q
      cases q
      exact ⟨v, by rw [List.getElem?_set_self (by rw [← r.len]; exact hl)], h⟩
    · rw [List.getElem?_eq_none (by simpa using hl)] at q; cases q
  · rw [List.getElem?_set_ne hj] at q ⊢
    exact r.at_ j e q
theorem REnv.wipe (r : REnv K φ H σ env) : ∀ is : List Nat, REnv K φ H (L2.wipe σ is) (Lg.wipe env is)
  | [] => r
  | i :: is => by
    have ih := REnv.wipe r is
    refine ⟨by simp [Lg.wipe, L2.wipe, ih.len], fun j e q => ?_⟩
    simp only [Lg.wipe] at q
    simp only [L2.wipe]
    by_cases hj : i = j
    · subst hj
      by_cases hl : i < (Lg.wipe env is).length
      · rw [List.getElem?_set_self hl] at q; cases q
      · rw [List.getElem?_eq_none (by simpa using hl)] at q; cases q
    · rw [List.getElem?_set_ne hj] at q ⊢
      exact ih.at_ j e q
end
/-! ### what is wanted behind -/
def Pst (K : PySem.W.Frag) (cv : String → Value) (W : WX) (σ : L2.St) (φ : Ph) (H : Hp) {α : Type} (r : Lg.Out α) (k : α → Lg.Store → Ph → Hp → Prop) : Prop := match r with
  | .ok a st => ∀ φ' H', Grow φ H φ' H' → RepSt K φ' H' st → k a st φ' H'
  | .exc c st => ∀ φ' H', Grow φ H φ' H' → RepSt K φ' H' st → W (cv c) none σ H'
  | .bad => False
section
variable {K : PySem.W.Frag} {cv : String → Value} {W : WX} {σ : L2.St} {φ φ1 : Ph} {H H1 : Hp} {α β : Type} {k : α → Lg.Store → Ph → Hp → Prop}
theorem Pst.grow {r : Lg.Out α} (h : Pst K cv W σ φ H r k) (g : Grow φ H φ1 H1) : Pst K cv W σ φ1 H1 r k := by
  cases r with
  | ok a st => exact fun φ' H' g' rs => h φ' H' (g.trans g') rs
  | exc c st => exact fun φ' H' g' rs => h φ' H' (g.trans g') rs
  | bad => exact h
theorem Pst.imp {r : Lg.Out α} {k' : α → Lg.Store → Ph → Hp → Prop} (h : Pst K cv W σ φ H r k) (i : ∀ a st φ' H', Grow φ H φ' H' → RepSt K φ' H' st → k a st φ' H' → k' a st φ' H') : Pst K cv W σ φ H r k' := by
  cases r with
  | ok a st => exact fun φ' H' g' rs => i _ _ _ _ g' rs (h φ' H' g' rs)
  | exc c st => exact h
  | bad => exact h
theorem Pst.bind {r : Lg.Out β} {f : β → Lg.Store → Lg.Out α} (h : Pst K cv W σ φ H (r.bind f) k) : Pst K cv W σ φ H r (fun a st φ' H' => Pst K cv W σ φ' H' (f a st) k) := by
  cases r with
  | ok a st => exact fun φ' H' g' _ => Pst.grow h g'
  | exc c st => exact h
  | bad => exact h
theorem Pst.here {a : α} {st : Lg.Store} (h : Pst K cv W σ φ H (.ok a st) k) (rs : RepSt K φ H st) : k a st φ H := h φ H (Grow.refl _ _) rs
end
end So
namespace So
open PySem PySem.Spec PyProof.Rows L2
/-! SoundE: an exception that leaves a comprehension. -/
section
open HandSPX
variable {M : Model} {A : Around} {E : Value → Shared → Prop} {s : Shared} {Z : Obj → Prop} {B : Heap} {l : List PySem.Env} {L L' a C : Addr}
theorem note_by {e : Value} {x y : PySem.Env} (h : x.frame = y.frame) : noteFrame e x = noteFrame e y := by
  unfold noteFrame PySem.frameOf
  rw [h]
/-- whatever noted it, it is noted at this frame now -/
theorem note_any {ce e0 : PySem.Env} {o0 : List PySem.Env} {Q : Unit → Shared → Prop} (hZ : Steady Z) (hfr : A.frames = some (e0 :: o0)) (hf : e0.frame = some L) (hc : ce.frame = some L)
    (x : Sky B (e0 :: o0) a Z L' s.heap) (hQ : ∀ h', HeldZ B (e0 :: o0) a Z L h' → s.heap.UpToSlots h' → Q () { s with heap := h' }) : wpAny M A (noteFrame (.ref a) ce) Q E s := by
  rw [note_by (hc.trans hf.symm)]
  rcases x with ⟨hB, hn, hl, oe, vs, he, hz, hd, h1⟩ | fl | hh
  · exact look_newZ hZ hfr hl hf he hB hn hd h1 hz hQ
  · exact looks_onZ hZ hfr hf fl hQ
  · by_cases q : L' = L
    · subst q
      exact againZ hf hh.2.2.2 (hQ s.heap hh (Heap.UpToSlots.refl _))
    · obtain ⟨hkb, hen, hl, oe, vs, T, oT, ts, he, hz, hd, h1, hnT, hTe, hT, hdT, h3⟩ := hh
      have keep : ∀ b, b ≠ T → (s.heap.update T (Obj.mapFields (·.setIfInBounds 3 Value.none))).get? b = s.heap.get? b := fun b hb => Heap.get?_update_other _ _ (Ne.symm hb)
      have plain : ∀ b o, s.heap.get? b = some o → (∀ vs, o.data ≠ .fields vs) → b ≠ T := fun b o hb hn z => hn ts (by subst z; rw [hT] at hb; cases hb; exact hdT)
      unfold noteFrame
      simp only [hf]
      refine wpAny_bind (wpAny_field he hd h1 ?_)
      rw [if_pos (show (Value.ref T != Value.none) = true from by simp)]
      refine wpAny_bind (wpAny_field hT hdT h3 ?_)
      rw [if_neg (show ¬ ((rawInt L' == rawInt L) = true) from fun z => q (by simp only [rawInt, beq_iff_eq, Value.int.injEq] at z; exact Int.ofNat_inj.mp z.1))]
      refine wpAny_bind (wpAny_setField hT hdT (Array.getElem?_eq_some_iff.mp h3).1 ?_)
      refine wpAny_entryZ hZ hfr (hl.of_keeps fun b o hb hn => ⟨o, (keep b (plain b o hb hn)).trans hb, rfl⟩) hf ((keep a (Ne.symm hTe)).trans he)
        (fun b o hb => (keep b fun z => by rw [z, hnT] at hb; cases hb).trans (hkb b o hb)) hen hd (Array.getElem?_eq_some_iff.mp h1).1 hz fun h' hN => ?_
      exact hQ h' ⟨hN.1, hen, hN.2.1, hN.2.2.1⟩ fun b o hb hn => hN.2.2.2 b o ((keep b (plain b o hb hn)).trans hb) hn
theorem pass_on {α : Type} {what : String} {ce : PySem.Env} {Q : α → Shared → Prop} (hc : ce.frame = some L) (hh : HeldZ B l a Z L s.heap)
    (hQ : ∀ h', HeldZ B l a Z L h' → s.heap.UpToSlots h' → E (.ref a) { s with heap := h' }) : wpAny M A (passOn what (.ref a) ce : Sem α) Q E s := by
  obtain ⟨_, _, _, oe', vs', T, _, _, g1, _, g2, g3, _⟩ := id hh
  unfold PySem.passOn
  refine wpAny_bind (wpAny_field g1 g2 g3 ?_)
  rw [if_neg (show ¬(Value.ref T == Value.none) = true from by simp)]
  rw [hc]
  have up : wpAny M A (setFlight (.ref a) (some L)) (fun _ s4 => wpAny M A (throw (.ref a) : Sem α) Q E s4) E s := setFlight_onZ hh fun h4 f4 up4 => wpAny_throw (hQ h4 f4 up4)
  first
    | exact wpAny_bind (wpAny_pure (wpAny_bind up))
    | exact wpAny_bind up
theorem frames_but {h h' B' : Heap} : ∀ {l : List PySem.Env}, h.FunFrames B l → (∀ b ∈ frs l, h'.get? b = h.get? b) → (∀ b, B.get? b = none → B'.get? b = none) → h'.FunFrames B' l
  | [], _, _, _ => trivial
  | e :: r, ⟨k, ⟨L, o, hf, hb, hg, hn⟩, x⟩, ek, eb => by
    have e1 : frs (e :: r) = L :: frs r := by unfold frs; rw [List.filterMap_cons, hf]
    exact ⟨k, ⟨L, o, hf, eb _ hb, (ek L (by rw [e1]; exact .head _)).trans hg, hn⟩, frames_but x (fun b hb => ek b (by rw [e1]; exact .tail _ hb)) eb⟩
theorem hide1_of {h : Heap} {b : Addr} {o : Obj} (e : (PySem.W.hideAll h [C]).get? b = some o) : b ≠ C ∧ h.get? b = some o :=
  ⟨fun z => (by subst z; rw [PySem.W.hideAll_none [b] (by simp)] at e; cases e), PySem.W.of_hideAll _ e⟩
theorem hide1_none {h : Heap} {b : Addr} (e : h.get? b = none) : (PySem.W.hideAll h [C]).get? b = none := by
  cases q : (PySem.W.hideAll h [C]).get? b with
  | none => rfl
  | some o => rw [(hide1_of q).2] at e; cases e
/-- one object of the ground is let go -/
theorem held_but {h h' : Heap} (x : HeldZ B l a Z L h) {o : Obj} (hC : B.get? C = some o) (hl : C ∉ frs l) (k : ∀ b, b ≠ C → h'.get? b = h.get? b) : HeldZ (PySem.W.hideAll B [C]) l a Z L h' := by
  obtain ⟨hkb, hen, hfr, oe, vs, T, oT, ts, he, hz, hd, h1, hnT, hTe, hT, hdT, h3⟩ := x
  have ha : a ≠ C := fun z => by rw [z, hC] at hen; cases hen
  have hTC : T ≠ C := fun z => by rw [z, hC] at hnT; cases hnT
  refine ⟨fun b o e => ?_, hide1_none hen, frames_but hfr (fun b hb => k b fun z => hl (z ▸ hb)) (fun _ => hide1_none), oe, vs, T, oT, ts, (k a ha).trans he, hz, hd, h1, hide1_none hnT, hTe, (k T hTC).trans hT, hdT, h3⟩
  obtain ⟨n, e⟩ := hide1_of e
  exact (k b n).trans (hkb b o e)
end
/-- the frame at which this block's exceptions are noted -/
structure Fr (X : L2.Cx) (L : Addr) : Prop where
  stk : ∃ e o, X.stack = e :: o ∧ e.frame = some L
  frm : X.env.frame = some L
/-- an exception in the air of X, noted at L or not yet -/
def XL (X : L2.Cx) (L : Addr) (W : WX) (u : Value) (s' : Shared) : Prop :=
  ∃ (a : Addr) (B : Heap) (sI : Shared) (pins : List (Addr × Obj)) (σ : L2.St) (H : Hp) (cls : Value) (d : Option Addr),
    u = .ref a ∧ Inv X pins σ H sI ∧ (∀ b o, sI.heap.get? b = some o → b ∉ frs X.stack → B.get? b = some o) ∧ sI.heap.UpToSlots s'.heap ∧
      Sky B X.stack a (Zc cls d) L s'.heap ∧ H a = none ∧ s'.os = sI.os ∧ AllBare s'.gens ∧ W cls d σ H
def TakesL (X : L2.Cx) (L : Addr) (W : WX) : Prop := ∀ u s', XL X L W u s' → X.xe u s'
theorem TakesL.of {X : L2.Cx} {W : WX} (t : Takes X W) : TakesL X X.env.locals W := fun u s' x => t u s' x
theorem TakesL.to {X : L2.Cx} {W : WX} (t : TakesL X X.env.locals W) : Takes X W := fun u s' x => t u s' x
theorem takesL0 {X : L2.Cx} {L : Addr} : TakesL X L (fun _ _ _ _ => False) := fun u s' ⟨_, _, _, _, _, _, _, _, _, _, _, _, _, _, _, _, w⟩ => w.elim
/-- what the end of a comprehension's block is to reach -/
def endX (M : Model) (A : Around) (E : Value → Shared → Prop) (Qf : Value → Shared → Prop) (acc : Value) (ce : PySem.Env) (r : Result) (s' : Shared) : Prop := match r with
  | .ok _ => ∃ m, s'.heap.Ns ce.locals m ∧ ∀ h', Heap.SameBut ce.locals s'.heap h' → Qf acc { s' with heap := h' }
  | .error x => ∃ m, s'.heap.Ns ce.locals m ∧ ∀ h', Heap.SameBut ce.locals s'.heap h' → wpAny M A (passOn "comprehension.variables-let-go" x ce : Sem Value) (fun _ _ => False) E { s' with heap := h' }
/-- the context of a comprehension's block out of which an exception may go -/
abbrev blkX (X : L2.Cx) (s : Shared) (H : Hp) (scope : Scope) (ce : PySem.Env) (fp : List Addr) (xe : Value → Shared → Prop) : L2.Cx := (X.blk s H scope ce fp).tr [] xe
section
variable {X : L2.Cx} {pins : List (Addr × Obj)} {σ : L2.St} {H : Hp} {s : Shared}
theorem inv_xe {Y : L2.Cx} {xe : Value → Shared → Prop} (hp : Y.pn = []) (I : Inv Y [] σ H s) : Inv (Y.tr [] xe) [] σ H s := by
  have := I.toTry xe
  rw [hp] at this
  exact this
/-- the block's exceptions go on in the context around it -/
theorem blk_takes {scope : Scope} {ce : PySem.Env} {fp : List Addr} {L L' : Addr} {W : WX} {Qf : Value → Shared → Prop} {acc : Value} (fr : Fr X L) (tk : TakesL X L W) (I : Inv X pins σ H s) (hf : ∀ b ∈ fp, FpOk X pins H b)
    (hcf : ce.frame = X.env.frame) (hcl : ce.locals = s.heap.objs.size) :
    TakesL (blkX X s H scope ce fp (notedBy (model X.prog X.w) X.A ce fun e s' => endX (model X.prog X.w) X.A X.xe Qf acc ce (.error e) s')) L' (fun cls d _ H' => W cls d σ H') := by
  rintro u s' ⟨a, B, sI, pins', σ', H', cls, d, rfl, I', nb, up, sky, na, os, ag, w⟩
  obtain ⟨e0, o0, hst, hf0⟩ := fr.stk
  have hcf : ce.frame = some L := hcf.trans fr.frm
  have nC : H' ce.locals = none := I'.free
  have fC : FpOk X pins H' ce.locals := I.fpOk (Nat.le_of_eq hcl.symm) nC
  have I7 : Inv X pins σ H' sI := I.call' (ch := fp) I'.os I'.base I'.hok I'.bare fun b hb => ⟨(hf b hb).2.2.2.1, (hf b hb).2.1, (hf b hb).2.2.2.2.1, (hf b hb).2.2.2.2.2⟩
  have fs : ce.locals ∉ frs X.stack := fun z => by
    rcases List.mem_cons.mp (I.stkSub _ z) with z | z
    · exact fC.2.1 z
    · exact fC.2.2.1 z
  have sky : Sky B X.stack a (Zc cls d) L' s'.heap := sky
  have nb : ∀ b o, sI.heap.get? b = some o → b ∉ frs X.stack → B.get? b = some o := nb
  rw [hst] at sky
  obtain ⟨m, hn, _⟩ := I'.loc
  have hn : sI.heap.Ns ce.locals m := hn
  refine note_any Zc.steady (by rw [← hst]; exact I.ok.frames) hf0 hcf sky fun h1 hh up1 => ?_
  refine ⟨m, (up.trans up1).ns hn, fun h2 sb => ?_⟩
  obtain ⟨oC, _, _, eC, _⟩ := id hn
  have BC := nb _ _ eC fs
  have hh2 := held_but hh BC (by rw [← hst]; exact fs) sb.2
  refine pass_on hcf hh2 fun h3 hh3 up3 => ?_
  have I8 : Inv X pins σ H' { sI with heap := PySem.W.hideAll sI.heap [ce.locals], toks := sI.toks } := I7.turned (fun b o hb e => PySem.W.hideAll_get _ e (by simpa using hb)) fC.1 fC.2.1 fC.2.2.2.1 fC.2.2.2.2.1 fC.2.2.2.2.2
  refine tk _ _ ⟨a, PySem.W.hideAll B [ce.locals], _, pins, σ, H', cls, d, rfl, I8, fun b o e hb => ?_, fun b o e hnf => ?_, .inr (.inr (by rw [hst]; exact hh3)), na, os, ag, w⟩
  · obtain ⟨n, e⟩ := hide1_of e
    exact PySem.W.hideAll_get _ (nb b o e hb) (by simpa using n)
  · obtain ⟨n, e⟩ := hide1_of e
    obtain ⟨sl, e1⟩ := (up.trans up1) b o e hnf
    exact up3 b _ ((sb.2 b n).trans e1) hnf |>.elim fun sl3 e3 => ⟨sl3, e3⟩
/-- the block runs, its end by endX -/
theorem compr_ends {M : Model} {A : Around} {E : Value → Shared → Prop} {s : Shared} {env : PySem.Env} {elt tg iter : Expr} {ifs : List Expr} {scope : Scope} {pos pos' : Pos} {first : Sem Value} {cl : List (Str × Addr)} {Q : Value → Shared → Prop}
    (hs : ∀ x, foldedSetIterable iter env x = pure x) (hclos : closureFor scope env = pure cl) (hkind : scope.kind = .function) (hnames : ∀ x ∈ scope.names, x.2 = .local → scope.names.lookup x.1 = some .local)
    (h : wpAny M A first (fun x s₁ => wpAny M A (pyIter x) (fun it s₂ => wpAny M A (newList []) (fun acc s₃ =>
      wpAny M A (newFunctionEnv scope env.globals cl [] env.qual none .none (some env)) (fun c0 s₄ =>
        codeAny M A (.compStart (.ListComp elt [⟨tg, iter, ifs, 0⟩] scope pos) 0 it acc { c0 with scope := relabel scope env }) (endX M A E Q acc { c0 with scope := relabel scope env }) s₄) E s₃) E s₂) E s₁) E s) :
    wpAny M A (comprehension (.ListComp elt [⟨tg, iter, ifs, 0⟩] scope pos) scope env pos' (newList []) false first none) Q E s := by
  unfold comprehension
  rw [hclos, show clausesOf (.ListComp elt [⟨tg, iter, ifs, 0⟩] scope pos) = [⟨tg, iter, ifs, 0⟩] from rfl]
  refine wpAny_bind (wpAny_mono h (fun x s₁ h₁ => wpAny_bind (wpAny_standAt (wpAny_bind (wpAny_of_eq (hs x) (wpAny_bind (wpAny_holding (wpAny_mono h₁ (fun it s₂ h₂ =>
    wpAny_standIf (wpAny_bind (wpAny_mono h₂ (fun acc s₃ h₃ => wpAny_bind (wpAny_pure (wpAny_bind (wpAny_mono h₃ (fun c0 s₄ h₄ => ?_) fun _ _ k => k)))) fun _ _ k => k))) fun _ _ k => k))))))) fun _ _ k => k)
  dsimp only
  have loc : ∀ x ∈ (scope.names.filter fun x => (x.2 == .local || x.2 == .cell) && x.1 != (".0" : Str)).reverse, x.2 = .local → PySem.Env.kindOf { c0 with scope := relabel scope env } x.1 = some .local :=
    fun x hx hl => lookup_relabel_local (hnames x (List.mem_filter.mp (List.mem_reverse.mp hx)).1 hl)
  refine wpAny_holding (wpAny_bind (wpAny_attempt (wpAny_holding (wpAny_run (codeAny_mono h₄ fun r s' hr => ?_)))))
  cases r with
  | ok f =>
    obtain ⟨m, hn, hr⟩ := hr
    exact wpAny_bind (wpAny_holding (wpAny_comp_letGo (cenv := { c0 with scope := relabel scope env }) hkind _ s' m loc hn fun h' m' _ sb => wpAny_pure (hr h' sb)))
  | error x =>
    obtain ⟨m, hn, hr⟩ := hr
    exact wpAny_bind (wpAny_holding (wpAny_comp_letGo (cenv := { c0 with scope := relabel scope env }) hkind _ s' m loc hn fun h' m' _ sb => wpAny_mono (hr h' sb) (fun _ _ f => f.elim) fun _ _ k => k))
/-- the block's wish: the wish around it, at the slots of its start -/
def WB (W : WX) (σ : L2.St) : WX := fun cls d _ H' => W cls d σ H'
/-- what a part of the block is proved in -/
def BlkA (X : L2.Cx) (σ : L2.St) (W : WX) (scope : Scope) (P : L2.Cx → Prop) : Prop :=
  ∀ (s : Shared) (H : Hp) (C : Addr) (cl : List (Str × Addr)) (fp : List Addr) (xe : Value → Shared → Prop), (∀ L', TakesL (blkX X s H scope (compEnvC scope cl C X.env) fp xe) L' (WB W σ)) → P (blkX X s H scope (compEnvC scope cl C X.env) fp xe)
/-- a comprehension that may let an exception out -/
theorem pe_lcX {elt tg iter : Expr} {ifs : List Expr} {scope : Scope} {own : List (Str × Nat)} {pos : Pos} {wi : TI} {g : L2.St → TG} {tt : L2.St → TT} {te : L2.St → TE} {L : Addr} {W : WX} (hc : X.calm = true) (hN : X.N.Nodup) (fr : Fr X L) (tk : TakesL X L W)
    (hi : PI X tg iter wi) (ok : BlkOk X.N X.env.scope scope own) (hg : ∀ σ, BlkA X σ W scope fun Y => PG Y tg (g σ)) (ht : ∀ σ, BlkA X σ W scope fun Y => PTs Y ifs (tt σ)) (he : ∀ σ, BlkA X σ W scope fun Y => PE Y elt (te σ))
    (hs : ∀ x, foldedSetIterable iter X.env x = pure x) : PE X (.ListComp elt [⟨tg, iter, ifs, 0⟩] scope pos) (fun σ H Q => tLc wi (g σ) (tt σ) (te σ) (own.map (·.2)) σ H Q) := by
  refine ⟨fun pins s σ H Q I h => ?_⟩
  rw [eval_ListComp]
  have hfree : ∀ y ∈ scope.names, y.2 = .free → ∃ c, X.env.cells.lookup y.1 = some c := fun y hy e => I.ok.has _ ((ok.free y hy e).imp id id)
  refine compr_ends hs (closure_ok hfree) ok.kind (fun y hy e => by rw [ok.uniq y hy, e])
    (thn (hi.run pins s σ H _ I h) fun xv s1 hx => thn hx fun itv s2 h2 => ?_)
  obtain ⟨it, fp, tn, J, H2, rfl, I2, T, st2, f2, q⟩ := h2
  refine wpAny_newObj_type (newEnv_comp ?_) (by show 0 ≤ sizeLine; decide)
  obtain ⟨D, hD⟩ : ∃ D, s2.heap.objs.size = D := ⟨_, rfl⟩
  rw [hD]
  have hDn : H2 D = none := I2.hok.fresh (Nat.le_of_eq hD)
  obtain ⟨V, ⟨m0, w0⟩, turn⟩ := q D hDn
  obtain ⟨s3, hs3⟩ : ∃ s3 : Shared, ({ s2 with heap := s2.heap.push { cls := .type "list", data := .seq ([] : List Value).toArray } } : Shared) = s3 := ⟨_, rfl⟩
  have h3 : s3.heap = s2.heap.push { cls := .type "list", data := .seq ([] : List Value).toArray } := by rw [← hs3]
  have I3 : Inv X pins σ (upd H2 D (.lst [])) s3 := by
    rw [← hs3]
    refine I2.laid (t' := s2.toks) (fun b o e => Heap.get?_push_of_some _ e) (Nat.le_of_eq hD) ⟨Nat.zero_le _, [], 0, .nil, ?_⟩
    rw [← hD]
    exact Heap.get?_push_size _ rfl
  have sz : ∀ b ∈ fp, b < s2.heap.objs.size := fun b hb => (T.obj _ _ st2 b hb).elim fun o e => Heap.lt_size e.1
  have f3 : ∀ b ∈ fp, FpOk X pins (upd H2 D (.lst [])) b ∧ b < s3.heap.objs.size := fun b hb =>
    ⟨⟨by rw [upd_ne (by rw [← hD]; exact Nat.ne_of_lt (sz b hb))]; exact (f2 b hb).1, (f2 b hb).2⟩, by rw [h3, Heap.size_push]; exact Nat.lt_succ_of_lt (sz b hb)⟩
  have st3 : tn 0 s3.heap := T.keep _ _ _ st2 fun b _ o e => by rw [h3]; exact Heap.get?_push_of_some _ e
  have I4 := block_start I3 ok hN f3
  have st4 : tn 0 (pushCells (s3.heap.push { cls := .type "dict", data := .dict #[] }) scope.names) := T.keep _ _ _ st3 fun b _ o e => pushCells_keeps _ _ _ _ (Heap.get?_push_of_some _ e)
  obtain ⟨cl, hcl⟩ : ∃ cl, cellsFrom (s3.heap.objs.size + 1) scope.names (cloFrom X.env.cells scope.names []) = cl := ⟨_, rfl⟩
  have goal : codeAny (model X.prog X.w) X.A (.compStart (.ListComp elt [⟨tg, iter, ifs, 0⟩] scope pos) 0 (.ref it) (.ref D) (compEnvC scope cl s3.heap.objs.size X.env))
      (endX (model X.prog X.w) X.A X.xe (EP X pins σ Q) (.ref D) (compEnvC scope cl s3.heap.objs.size X.env)) { s3 with heap := pushCells (s3.heap.push { cls := .type "dict", data := .dict #[] }) scope.names } := by
    rw [hcl] at I4
    have nfp : ∀ b ∈ fp, (upd H2 D (.lst [])) b = none := fun b hb => (f3 b hb).1.1
    obtain ⟨H3, hH3⟩ : ∃ H3, upd H2 D (.lst []) = H3 := ⟨_, rfl⟩
    rw [hH3] at I3 I4 w0 nfp f3
    have tkB := fun L' => blk_takes (scope := scope) (ce := compEnvC scope cl s3.heap.objs.size X.env) (fp := fp) (L' := L') (Qf := EP X pins σ Q) (acc := .ref D) fr tk I3 (fun b hb => (f3 b hb).1) rfl rfl
    have pg := hg σ s3 H3 s3.heap.objs.size cl fp _ tkB
    have pt := ht σ s3 H3 s3.heap.objs.size cl fp _ tkB
    have pe := he σ s3 H3 s3.heap.objs.size cl fp _ tkB
    have I5 := inv_xe (xe := notedBy (model X.prog X.w) X.A (compEnvC scope cl s3.heap.objs.size X.env) fun e s' => endX (model X.prog X.w) X.A X.xe (EP X pins σ Q) (.ref D) (compEnvC scope cl s3.heap.objs.size X.env) (.error e) s') rfl I4
    obtain ⟨ce, hce⟩ : ∃ ce, compEnvC scope cl s3.heap.objs.size X.env = ce := ⟨_, rfl⟩
    have cL : ce.locals = s3.heap.objs.size := by subst hce; rfl
    rw [hce] at pg pt pe I5
    rw [hce]
    generalize hs4 : ({ s3 with heap := pushCells (s3.heap.push { cls := .type "dict", data := .dict #[] }) scope.names } : Shared) = s4 at I5 ⊢
    have st4 : tn 0 s4.heap := by rw [← hs4]; exact st4
    clear tkB I4
    generalize hxe : (notedBy (model X.prog X.w) X.A ce fun e s' => endX (model X.prog X.w) X.A X.xe (EP X pins σ Q) (.ref D) ce (.error e) s') = xe at pg pt pe I5
    have stat : ∀ {σ' : L2.St} {H' : Hp} {s' : Shared}, Inv (blkX X s3 H3 scope ce fp xe) [] σ' H' s' → (∀ b ∈ fp, H' b = none) → ∀ b ∈ fp, FpOk (blkX X s3 H3 scope ce fp xe) [] H' b := fun {σ' H' s'} I' hn b hb =>
      ⟨hn b hb, (I'.ok.exf b hb).1, I'.ok.exfs b hb, .inl hb, fun x c e => (I'.ok.exf b hb).2 x c e, fun p hp => absurd (show p ∈ ([] : List (Addr × Obj)) ++ [] from hp) (by simp)⟩
    have loop : codeAny (model X.prog X.w) X.A (.compLoop (.ListComp elt [⟨tg, iter, ifs, 0⟩] scope pos) 0 (.ref it) (.ref D) ce) (endX (model X.prog X.w) X.A X.xe (EP X pins σ Q) (.ref D) ce) s4 := by
      refine compLoop_any (fun n s' => ∃ i H', Inv (blkX X s3 H3 scope ce fp xe) [] (L2.wipe σ (own.map (·.2))) H' s' ∧ tn i s'.heap ∧ (∀ b ∈ fp, H' b = none) ∧ V i n H') ?_ m0 ⟨0, H3, I5, st4, nfp, w0⟩
      rintro n s5 ⟨i, H5, J5, st5, n5, w5⟩
      rw [hxe]
      rcases turn i n H5 w5 with ⟨stop, qq⟩ | ⟨go, Nx, hNx, step⟩
      · -- the list is done
        refine thnF (T.done (blkX X s3 H3 scope ce fp xe) rfl rfl rfl hc i [] s5 _ H5 (fun _ _ => False) J5 (stat J5 n5) st5 stop) fun r s6 ⟨hr, I6⟩ => ?_
        subst hr
        have I7 : Inv X pins σ H5 s6 := I3.call' (ch := fp) I6.os I6.base I6.hok I6.bare fun b hb => ⟨(f3 b hb).1.2.2.2.1, (f3 b hb).1.2.1, (f3 b hb).1.2.2.2.2.1, (f3 b hb).1.2.2.2.2.2⟩
        have nC : H5 ce.locals = none := I6.free
        obtain ⟨m, hn, _⟩ := I6.loc
        obtain ⟨c0, c1, c2, c3, c4, c5⟩ : FpOk X pins H5 ce.locals := I3.fpOk (Nat.le_of_eq cL.symm) nC
        exact ⟨m, hn, fun h'' sb => ⟨.ref D, H5, I7.turned (t' := s6.toks) (fun b o hb e => (sb.2 b hb).trans e) c0 c1 c3 c4 c5, rfl, qq⟩⟩
      · -- a turn
        refine thnF (T.item (blkX X s3 H3 scope ce fp xe) rfl rfl rfl hc i [] s5 _ H5 (fun _ _ => False) J5 (stat J5 n5) st5 go) fun r s6 ⟨u, hr, h6⟩ => ?_
        subst hr
        refine thnF h6 fun _ s7 ⟨x, H7, I7, r7, y7, st7, n7⟩ => ?_
        have P7 := I7.pinned (stat I7 n7) (T.obj _ _ st7)
        refine thn (pg.run _ s7 _ H7 x u _ P7 r7 (step x H7 y7)) fun _ s8 ⟨σ8, H8, I8, hw8, q8⟩ => ?_
        refine thn (pt.run _ s8 σ8 H8 _ I8 q8) fun b s9 ⟨H9, I9, q9⟩ => ?_
        have fin : ∀ {s' : Shared} {H' : Hp}, Inv (blkX X s3 H3 scope ce fp xe) ([] ++ pinsAt fp s7.heap) σ8 H' s' → Nx H' → ∃ m, m < n ∧ ∃ i H', Inv (blkX X s3 H3 scope ce fp xe) [] (L2.wipe σ (own.map (·.2))) H' s' ∧ tn i s'.heap ∧ (∀ b ∈ fp, H' b = none) ∧ V i m H' := fun {s' H'} I' nx => by
          obtain ⟨m', hm, w'⟩ := hNx H' nx
          have pin' : ∀ b ∈ fp, ∀ o, s7.heap.get? b = some o → s'.heap.get? b = some o ∧ H' b = none := fun b hb o e =>
            have z := I'.pin (b, o) (List.mem_append_right _ (List.mem_append_right _ (mem_pinsAt hb e)))
            ⟨z.1, z.2.1⟩
          have hl : (L2.wipe σ (own.map (·.2))).length = σ8.length := by rw [← hw8, L2.wipe_length]
          refine ⟨m', hm, i + 1, H', (I'.unpinned (pins := [])).weak hl (fun j v e => ?_), T.keep _ _ _ st7 fun b hb o e => (pin' b hb o e).1, fun b hb => ?_, w'⟩
          · rw [← hw8] at e
            exact (wipe_some e).1
          · obtain ⟨o, e, _⟩ := T.obj _ _ st7 b hb
            exact (pin' b hb o e).2
        cases b with
        | false =>
          simp only [Bool.false_eq_true, if_false] at q9 ⊢
          exact fin I9 q9
        | true =>
          simp only [if_true] at q9 ⊢
          refine thn (pe.run _ s9 σ8 H9 _ I9 q9) fun z s10 ⟨yv, H10, I10, r10, acc, hD10, hz10, nx⟩ => ?_
          exact app_ok (X := blkX X s3 H3 scope ce fp xe) I10 hD10 hz10 r10 fun s11 I11 => fin I11 nx
    exact codeAny_compStart_list loop (T.self X.A 0 _ _ _ st4 loop)
  subst hcl hs3
  exact goal
end
end So
namespace So
open PySem PySem.Spec PyProof.Rows L2
/-! ### texts -/
theorem str_inj {a b : String} (h : Str.ofString a = Str.ofString b) : a = b := by
  rw [Str.ofString_eq_toList, Str.ofString_eq_toList] at h
  injection h with h
  have h2 : a.toList.map Char.toNat = b.toList.map Char.toNat := by simpa using h
  have h3 : a.toList = b.toList := List.map_inj_right (fun x y e => Char.ext (UInt32.toNat_inj.mp e)) |>.mp h2
  exact String.toList_inj.mp h3
theorem str_beq (a b : String) : (Str.ofString a == Str.ofString b) = (a == b) := by
  by_cases h : a = b
  · subst h; simp
  · have h1 : (a == b) = false := by simpa using h
    have h2 : (Str.ofString a == Str.ofString b) = false := by simpa using fun e => h (str_inj e)
    rw [h1, h2]
theorem str_ok (s : String) : PyData.strOk (Str.ofString s) = true := by
  rw [Str.ofString_eq_toList]
  show ((s.toList.map Char.toNat).toArray).all (· < 0x110000) = true
  rw [List.all_toArray, List.all_eq_true]
  intro x hx
  obtain ⟨c, _, rfl⟩ := List.mem_map.mp hx
  refine decide_eq_true ?_
  have h := c.valid
  simp only [UInt32.isValidChar, Nat.isValidChar] at h
  have e : c.toNat = c.val.toNat := rfl
  omega
/-! ### data -/
mutual
def py : Lg.D → PyData
  | .non => .none
  | .bl b => .bool b
  | .int i => .int i
  | .str s => .str (Str.ofString s)
  | .tup xs => .tuple (pys xs)
  | .scr xs => .list (pys xs)
  | .fro xs => .list (pys xs)
  | .ref _ => .none
  | .fn _ => .none
  | .obj _ => .none
def pys : List Lg.D → List PyData
  | [] => []
  | x :: r => py x :: pys r
end
section
variable {K : PySem.W.Frag} {φ : Ph} {H : Hp} {st : Lg.Store}
/-- what stands there reads as data -/
theorem rd_ok (r : RepSt K φ H st) : ∀ (n : Nat) (d e : Lg.D) (v : V), Rep K φ H v d → Lg.rd st n d = some e → Dp K H v (py e) ∧ (py e).depth ≤ n ∧ (py e).canLay0 = true := by
  intro n
  induction n with
  | zero =>
    intro d e v h q
    cases h with
    | non => simp [Lg.rd] at q; subst q; exact ⟨.non, by simp [py, PyData.depth], by simp [py, PyData.canLay0]⟩
    | bl b => simp [Lg.rd] at q; subst q; exact ⟨.bl b, by simp [py, PyData.depth], by simp [py, PyData.canLay0]⟩
    | int i => simp [Lg.rd] at q; subst q; exact ⟨.int i, by simp [py, PyData.depth], by simp [py, PyData.canLay0]⟩
    | str s => simp [Lg.rd] at q; subst q; exact ⟨.str _, by simp [py, PyData.depth], by simp [py, PyData.canLay0, str_ok]⟩
    | _ => simp [Lg.rd] at q
  | succ n ih =>
    have all : ∀ (ds es : List Lg.D) (vs : List V), Reps K φ H vs ds → ds.mapM (Lg.rd st n) = some es → DpAll K H vs (pys es) ∧ PyData.depthAll (pys es) ≤ n ∧ PyData.canLayAll0 (pys es) = true := by
      intro ds
      induction ds with
      | nil =>
        intro es vs hr q
        cases hr
        simp at q; subst q
        exact ⟨.nil, by simp [pys, PyData.depthAll], by simp [pys, PyData.canLayAll0]⟩
      | cons d ds ih2 =>
        intro es vs hr q
        cases hr with
        | cons a b =>
          rw [List.mapM_cons] at q
          cases q1 : Lg.rd st n d with
          | none => rw [q1] at q; simp at q
          | some e =>
            cases q2 : ds.mapM (Lg.rd st n) with
            | none => rw [q1, q2] at q; simp at q
            | some es' =>
              rw [q1, q2] at q
              simp at q; subst q
              obtain ⟨h1, h2, h3⟩ := ih d e _ a q1
              obtain ⟨g1, g2, g3⟩ := ih2 es' _ b q2
              exact ⟨.cons h1 g1, by simp only [pys, PyData.depthAll]; omega, by simp only [pys, PyData.canLayAll0, h3, g3, Bool.and_self]⟩
    intro d e v h q
    cases h with
    | non => simp [Lg.rd] at q; subst q; exact ⟨.non, by simp [py, PyData.depth], by simp [py, PyData.canLay0]⟩
    | bl b => simp [Lg.rd] at q; subst q; exact ⟨.bl b, by simp [py, PyData.depth], by simp [py, PyData.canLay0]⟩
    | int i => simp [Lg.rd] at q; subst q; exact ⟨.int i, by simp [py, PyData.depth], by simp [py, PyData.canLay0]⟩
    | str s => simp [Lg.rd] at q; subst q; exact ⟨.str _, by simp [py, PyData.depth], by simp [py, PyData.canLay0, str_ok]⟩
    | tup h1 h2 =>
      simp only [Lg.rd, Option.map_eq_some_iff] at q
      obtain ⟨es, q1, q2⟩ := q
      subst q2
      obtain ⟨g1, g2, g3⟩ := all _ es _ h2 q1
      exact ⟨.tup h1.sq g1, by simp only [py, PyData.depth]; omega, by simp only [py, PyData.canLay0, g3]⟩
    | scr h1 h0 h2 =>
      simp only [Lg.rd, Option.map_eq_some_iff] at q
      obtain ⟨es, q1, q2⟩ := q
      subst q2
      obtain ⟨g1, g2, g3⟩ := all _ es _ h2 q1
      exact ⟨.lst (.of h1) g1, by simp only [py, PyData.depth]; omega, by simp only [py, PyData.canLay0, g3]⟩
    | fro h1 h2 =>
      simp only [Lg.rd, Option.map_eq_some_iff] at q
      obtain ⟨es, q1, q2⟩ := q
      subst q2
      obtain ⟨g1, g2, g3⟩ := all _ es _ h2 q1
      exact ⟨.lst h1.sq g1, by simp only [py, PyData.depth]; omega, by simp only [py, PyData.canLay0, g3]⟩
    | @ref l a h1 =>
      simp only [Lg.rd] at q
      split at q
      · rename_i xs q0
        simp only [Option.map_eq_some_iff] at q
        obtain ⟨es, q1, q2⟩ := q
        subst q2
        obtain ⟨b, vs, k1, k2, k3⟩ := r.cell l _ q0
        rw [h1] at k1; cases k1
        obtain ⟨g1, g2, g3⟩ := all _ es _ k3 q1
        exact ⟨.lst (.of k2) g1, by simp only [py, PyData.depth]; omega, by simp only [py, PyData.canLay0, g3]⟩
      · cases q
    | fn x => simp [Lg.rd] at q
    | obj h1 => simp [Lg.rd] at q
end
mutual
def tidy : Lg.D → Bool
  | .ref _ => false
  | .obj _ => false
  | .fn _ => false
  | .fro _ => false
  | .tup xs => tidys xs
  | .scr xs => tidys xs
  | _ => true
def tidys : List Lg.D → Bool
  | [] => true
  | x :: r => tidy x && tidys r
end
theorem rd_tidy (st : Lg.Store) : ∀ (n : Nat) (d e : Lg.D), Lg.rd st n d = some e → tidy e = true := by
  intro n
  induction n with
  | zero =>
    intro d e q
    cases d <;> simp [Lg.rd] at q <;> (subst q; simp [tidy])
  | succ n ih =>
    have all : ∀ (ds es : List Lg.D), ds.mapM (Lg.rd st n) = some es → tidys es = true := by
      intro ds
      induction ds with
      | nil => intro es q; simp at q; subst q; simp [tidys]
      | cons d ds ih2 =>
        intro es q
        rw [List.mapM_cons] at q
        cases q1 : Lg.rd st n d with
        | none => rw [q1] at q; simp at q
        | some e =>
          cases q2 : ds.mapM (Lg.rd st n) with
          | none => rw [q1, q2] at q; simp at q
          | some es' =>
            rw [q1, q2] at q
            simp at q; subst q
            simp [tidys, ih d e q1, ih2 es' q2]
    intro d e q
    cases d with
    | tup xs | scr xs | fro xs =>
      simp only [Lg.rd, Option.map_eq_some_iff] at q
      obtain ⟨es, q1, q2⟩ := q
      subst q2
      simp [tidy, all _ es q1]
    | ref l =>
      simp only [Lg.rd] at q
      split at q
      · simp only [Option.map_eq_some_iff] at q
        obtain ⟨es, q1, q2⟩ := q
        subst q2
        simp [tidy, all _ es q1]
      · cases q
    | obj x => simp [Lg.rd] at q
    | fn x => simp [Lg.rd] at q
    | _ => simp [Lg.rd] at q; subst q; simp [tidy]
mutual
theorem eqv_deq : ∀ a b : Lg.D, tidy a = true → tidy b = true → PyData.eqv (py a) (py b) = Lg.deq a b := fun a b ha hb => by
  cases a <;> cases b <;> first
    | (simp only [py, PyData.eqv, Lg.deq]; done)
    | (simp only [py, PyData.eqv, Lg.deq, str_beq]; done)
    | (simp [tidy] at ha; done)
    | (simp [tidy] at hb; done)
    | (simp only [tidy] at ha hb; simp only [py, PyData.eqv, Lg.deq]; exact eqvs_deqs _ _ ha hb)
theorem eqvs_deqs : ∀ a b : List Lg.D, tidys a = true → tidys b = true → PyData.eqvAll (pys a) (pys b) = Lg.deqs a b
  | [], [], _, _ => by simp [pys, PyData.eqvAll, Lg.deqs]
  | [], _ :: _, _, _ => by simp [pys, PyData.eqvAll, Lg.deqs]
  | _ :: _, [], _, _ => by simp [pys, PyData.eqvAll, Lg.deqs]
  | x :: xs, y :: ys, ha, hb => by
    simp only [tidys, Bool.and_eq_true] at ha hb
    simp only [pys, PyData.eqvAll, Lg.deqs, eqv_deq x y ha.1 hb.1, eqvs_deqs xs ys ha.2 hb.2]
end
/-! ### operators -/
section
variable {X : L2.Cx}
theorem OpR.or {f : Value → Value → Sem Value} {r r' : R2} (h : OpR X f r) (h' : OpR X f r') : OpR X f (fun x y H Q => r x y H Q ∨ r' x y H Q) := by
  intro pins s σ H x y v u Q I rx ry q
  rcases q with q | q
  · exact h pins s σ H x y v u Q I rx ry q
  · exact h' pins s σ H x y v u Q I rx ry q
def opB : Lg.Bop → Operator
  | .add => .Add | .sub => .Sub | .mul => .Mult | .fdiv => .FloorDiv | .mod => .Mod | .pow => .Pow | .shl => .LShift
def opC : Lg.Cop → CmpOp
  | .eq => .Eq | .ne => .NotEq | .lt => .Lt | .le => .LtE | .gt => .Gt | .ge => .GtE | .is => .Is | .isNot => .IsNot | .isin => .In | .notIn => .NotIn
def CFd (i j : Int) : Prop := j ≠ 0 ∧ Lg.divOk i j = true
theorem CFd.ok {i j : Int} (h : CFd i j) : Builtin.divisionGoesByPylong i j = false := by
  have h2 := h.2
  unfold Lg.divOk Lg.limbs at h2
  unfold Builtin.divisionGoesByPylong
  simp only [beq_iff_eq]
  rw [Bool.not_eq_true'] at h2
  exact h2
theorem op_fd : OpR X (binaryOp .FloorDiv) (rI CFd fun i j => .int (i.fdiv j)) := opI fun _ _ _ _ _ _ _ hc q => floordiv_int hc.1 q (.inl hc.ok)
theorem iop_fd : OpR X (inplaceOp .FloorDiv) (rI CFd fun i j => .int (i.fdiv j)) := opI fun _ _ _ _ _ _ _ hc q => ifloordiv_int hc.1 q (.inl hc.ok)
theorem iop_modN : OpR X (inplaceOp .Mod) (rI (fun _ j => j ≠ 0) fun i j => .int (i.fmod j)) := opI fun _ _ _ _ _ _ _ hc q => imod_int hc q
theorem iop_mulX : OpR X (inplaceOp .Mult) (rI CMulX fun i j => .int (i * j)) := opI fun _ _ _ _ _ _ _ hc q => imul_int q hc.ok
/-- a tuple once, or an empty one any number of times: itself -/
theorem mul_same (l : Addr) (its : Array Value) (n : Nat) (dd : Option Addr) (sl : Array (Option Value)) (x : Int) (u : Tok) (c0 : (decide (x < -(2 ^ 63)) || decide (x ≥ 2 ^ 63)) = false) (c1 : (its.isEmpty || x == 1) = true) :
    Meets (Builtin.«tuple.__mul__» ⟨[.ref l, .int x u], []⟩) (fun _ R s => s.heap.get? l = some { cls := .type "tuple", dict := dd, data := .seq its n, slots := sl } ∧ R (.ok (.ret (.ref l))) s) :=
  .of_wp fun prog w A R s h => by
    obtain ⟨hp, g, d, tk, os⟩ := s
    obtain ⟨hl, h⟩ := h
    have f1 := AutoSeq1.idx_int
    wp_walk using wpAny_loadPart' hl
    repeat (first
      | (refine wpAny_ite_false (decide_eq_false (by rw [c0]; exact Bool.false_ne_true)) ?_; wp_walk using wpAny_loadPart' hl)
      | (refine wpAny_ite_true (decide_eq_true c1) ?_; wp_walk using wpAny_loadPart' hl))
    exact ⟨_, rfl, h⟩
/-- a tuple no times -/
theorem mul_none (l : Addr) (its : Array Value) (n : Nat) (dd : Option Addr) (sl : Array (Option Value)) (x : Int) (u : Tok) (c0 : (decide (x < -(2 ^ 63)) || decide (x ≥ 2 ^ 63)) = false) (c1 : (its.isEmpty || x == 1) = false) (c2 : (decide (x ≤ 0) || its.isEmpty) = true) :
    Meets (Builtin.«tuple.__mul__» ⟨[.ref l, .int x u], []⟩) (fun _ R s => s.heap.get? l = some { cls := .type "tuple", dict := dd, data := .seq its n, slots := sl } ∧
      R (.ok (.ret (Value.ref s.heap.objs.size))) { s with heap := s.heap.push { cls := Value.type "tuple", data := Data.seq #[] }, toks := s.toks }) :=
  .of_wp fun prog w A R s h => by
    obtain ⟨hp, g, d, tk, os⟩ := s
    obtain ⟨hl, h⟩ := h
    have f1 := AutoSeq1.idx_int
    wp_walk using wpAny_loadPart' hl
    repeat (first
      | (refine wpAny_ite_false (decide_eq_false (by rw [c0]; exact Bool.false_ne_true)) ?_; wp_walk using wpAny_loadPart' hl)
      | (refine wpAny_ite_false (decide_eq_false (by rw [c1]; exact Bool.false_ne_true)) ?_; wp_walk using wpAny_loadPart' hl)
      | (refine wpAny_ite_true (decide_eq_true c2) ?_; wp_walk using wpAny_loadPart' hl))
    exact ⟨_, rfl, h⟩
def rRep1 (K : PySem.W.Frag) : R2 := fun x y H Q => ∃ l k xs, x = .ref l ∧ y = .int k ∧ SqT K H l xs ∧ -1000 ≤ k ∧ k ≤ 1000 ∧ (xs = [] ∨ k = 1) ∧ Q (.ref l) H
def rRep0 (K : PySem.W.Frag) : R2 := fun x y H Q => ∃ l k xs, x = .ref l ∧ y = .int k ∧ SqT K H l xs ∧ -1000 ≤ k ∧ k ≤ 0 ∧ xs ≠ [] ∧ ∀ p, H p = none → Q (.ref p) (upd H p (.tup []))
section
variable {X : L2.Cx}
theorem op_rep1 : OpR X (binaryOp .Mult) (rRep1 X.K) := by
  intro pins s σ H x y v u Q I rx ry h
  obtain ⟨l, k, xs, rfl, rfl, hT, h1, h2, hne, q⟩ := h
  cases rx
  obtain ⟨t, rfl⟩ := ry
  obtain ⟨its, r, ⟨⟨cls, dd, data, sl⟩, ho, hc, n, hd⟩, hs⟩ := I.tuple hT
  simp only at hc hd
  subst hc hd
  have c0 : (decide (k < -(2 ^ 63)) || decide (k ≥ 2 ^ 63)) = false := by
    rw [decide_eq_false (by omega), decide_eq_false (by omega)] <;> rfl
  have c1 : (its.toArray.isEmpty || k == 1) = true := by
    rcases hne with e | e
    · subst e
      cases r
      rfl
    · subst e; simp
  refine wpAny_binaryOp_repeat_ref (T := "tuple") (U := "int") (by decide) ⟨_, ho, rfl⟩ (fun s' => typeIs_int s' k t) noFill_tuple_mul F.fills_int_mul F.slot_int_rmul repeat_tuple F.slot_int_index.lookup
    (call_meets F.slot_int_rmul (typeIs_int s k t) F.entry_int_rmul (F.args_int_rmul_2 _ _) (int_rmul_tuple k t l its.toArray n dd sl)
      ⟨ho, rfl, ⟨_, ho, rfl⟩, call_meets F.slot_tuple_mul ⟨_, ho, rfl⟩ F.entry_tuple_mul (F.args_tuple_mul_2 _ _) (mul_same l its.toArray n dd sl k t c0 c1) ⟨ho, ?_⟩⟩)
  exact ⟨.ref l, H, I, rfl, q⟩
theorem op_rep0 : OpR X (binaryOp .Mult) (rRep0 X.K) := by
  intro pins s σ H x y v u Q I rx ry h
  obtain ⟨l, k, xs, rfl, rfl, hT, h1, h2, hne, q⟩ := h
  cases rx
  obtain ⟨t, rfl⟩ := ry
  obtain ⟨its, r, ⟨⟨cls, dd, data, sl⟩, ho, hc, n, hd⟩, hs⟩ := I.tuple hT
  simp only at hc hd
  subst hc hd
  have hi : its.toArray.isEmpty = false := by
    cases its with
    | nil => cases r; exact absurd rfl hne
    | cons a b => rfl
  have c0 : (decide (k < -(2 ^ 63)) || decide (k ≥ 2 ^ 63)) = false := by
    rw [decide_eq_false (by omega), decide_eq_false (by omega)] <;> rfl
  have c1 : (its.toArray.isEmpty || k == 1) = false := by
    rw [hi, Bool.false_or]; exact beq_eq_false_iff_ne.mpr (by omega)
  have c2 : (decide (k ≤ 0) || its.toArray.isEmpty) = true := by
    rw [decide_eq_true h2]; rfl
  refine wpAny_binaryOp_repeat_ref (T := "tuple") (U := "int") (by decide) ⟨_, ho, rfl⟩ (fun s' => typeIs_int s' k t) noFill_tuple_mul F.fills_int_mul F.slot_int_rmul repeat_tuple F.slot_int_index.lookup
    (call_meets F.slot_int_rmul (typeIs_int s k t) F.entry_int_rmul (F.args_int_rmul_2 _ _) (int_rmul_tuple k t l its.toArray n dd sl)
      ⟨ho, rfl, ⟨_, ho, rfl⟩, call_meets F.slot_tuple_mul ⟨_, ho, rfl⟩ F.entry_tuple_mul (F.args_tuple_mul_2 _ _) (mul_none l its.toArray n dd sl k t c0 c1 c2) ⟨ho, ?_⟩⟩)
  refine ⟨.ref s.heap.objs.size, _, I.laid (t' := s.toks) (o := .tup []) (fun b ob q => Heap.get?_push_of_some _ q) (Nat.le_refl _) ?_, rfl, q _ (I.hok.fresh (Nat.le_refl _))⟩
  exact ⟨Nat.zero_le _, [], .nil, IsTup.new _ _⟩
end
def rB (K : PySem.W.Frag) : Lg.Bop → R2
  | .add => fun x y H Q => rI0 (fun i j => .int (i + j)) x y H Q ∨ rCatA K x y H Q ∨ rCat x y H Q
  | .sub => rI0 fun i j => .int (i - j)
  | .mul => fun x y H Q => rI CMulX (fun i j => .int (i * j)) x y H Q ∨ rRep x y H Q ∨ rRepT K x y H Q ∨ rRep1 K x y H Q ∨ rRep0 K x y H Q
  | .fdiv => rI CFd fun i j => .int (i.fdiv j)
  | .mod => rI (fun _ j => j ≠ 0) fun i j => .int (i.fmod j)
  | .pow => rI CPow fun i j => .int (i ^ j.toNat)
  | .shl => rI CPow fun i j => .int (i * 2 ^ j.toNat)
theorem bop_rule : ∀ op : Lg.Bop, OpR X (binaryOp (opB op)) (rB X.K op)
  | .add => OpR.or op_add (OpR.or op_catA op_cat)
  | .sub => op_sub
  | .mul => OpR.or op_mulX (OpR.or op_rep (OpR.or op_repT (OpR.or op_rep1 op_rep0)))
  | .fdiv => op_fd
  | .mod => op_modN
  | .pow => op_pow
  | .shl => op_shl
end
theorem size_eq : Lg.sizeLine = PySem.sizeLine := by rw [sizeLine_eq]; rfl
theorem bits_eq (i : Int) : Lg.bits i = Builtin.Int.intBits i := by
  unfold Lg.bits Builtin.Int.intBits
  simp
section
variable {K : PySem.W.Frag} {cv : String → Value} {W : WX} {σ : L2.St} {φ : Ph} {H : Hp} {st : Lg.Store}
/-- a value is wanted -/
def kQ (K : PySem.W.Frag) (Q : VK) : Lg.D → Lg.Store → Ph → Hp → Prop := fun d _ φ' H' => ∀ v, Rep K φ' H' v d → Q v H'
theorem new_tup (rs : RepSt K φ H st) {vs : List V} {ds : List Lg.D} (h : Reps K φ H vs ds) {Q : VK} (q : Pst K cv W σ φ H (.ok (.tup ds) st) (kQ K Q)) : ∀ p, H p = none → Q (.ref p) (upd H p (.tup vs)) := fun p hp => by
  obtain ⟨g, rs'⟩ := rs.lay hp (.tup vs)
  exact q φ _ g rs' _ (.tup (.inl ⟨upd_same, rs.out hp⟩) (h.grow g))
theorem new_scr (rs : RepSt K φ H st) {vs : List V} {ds : List Lg.D} (h : Reps K φ H vs ds) {Q : VK} (q : Pst K cv W σ φ H (.ok (.scr ds) st) (kQ K Q)) : ∀ p, H p = none → Q (.ref p) (upd H p (.lst vs)) := fun p hp => by
  obtain ⟨g, rs'⟩ := rs.lay hp (.lst vs)
  exact q φ _ g rs' _ (.scr upd_same (rs.out hp) (h.grow g))
theorem new_list (rs : RepSt K φ H st) {m : Bool} {vs : List V} {ds : List Lg.D} (h : Reps K φ H vs ds) {Q : VK} (q : Pst K cv W σ φ H (Lg.newList m ds st) (kQ K Q)) : ∀ p, H p = none → Q (.ref p) (upd H p (.lst vs)) := by
  cases m with
  | false => exact new_scr rs h q
  | true =>
    intro p hp
    obtain ⟨g, rs'⟩ := rs.alloc hp h
    refine q _ _ g rs' _ (.ref ?_)
    show (φ.cs ++ [p])[st.length]? = some p
    rw [← rs.len, List.getElem?_append_right (Nat.le_refl _)]
    simp
theorem bop_read (rs : RepSt K φ H st) (op : Lg.Bop) {x y : V} {dx dy : Lg.D} (hx : Rep K φ H x dx) (hy : Rep K φ H y dy) {Q : VK} (q : Pst K cv W σ φ H (Lg.bop op dx dy st) (kQ K Q)) : rB K op x y H Q := by
  cases op with
  | add =>
    cases hx <;> cases hy <;> first
      | exact q.elim
      | (rename_i i j; exact .inl ⟨i, j, rfl, rfl, q.here rs _ (.int _)⟩)
      | (rename_i a vs ds t r b us es t' r'
         simp only [Lg.bop] at q
         split at q
         · rename_i hz
           rw [size_eq] at hz
           refine .inr (.inl ⟨a, b, vs, us, rfl, rfl, t.sq, t'.sq, by rw [r.length, r'.length]; exact hz, fun e => ?_, fun _ e => ?_, fun _ _ => new_tup rs (r.append r') q⟩)
           · subst e; cases r; exact q.here rs _ (.tup t' r')
           · subst e; cases r'; rw [List.append_nil] at q; exact q.here rs _ (.tup t r)
         · exact q.elim)
      | (rename_i a vs ds h n r b us es h' n' r'
         simp only [Lg.bop] at q
         split at q
         · rename_i hz
           rw [size_eq] at hz
           exact .inr (.inr ⟨a, b, vs, us, rfl, rfl, h, h', by rw [r.length, r'.length]; exact hz, new_scr rs (r.append r') q⟩)
         · exact q.elim)
  | sub =>
    cases hx <;> cases hy <;> first
      | exact q.elim
      | (rename_i i j; exact ⟨i, j, rfl, rfl, q.here rs _ (.int _)⟩)
  | mul =>
    cases hx <;> cases hy <;> first
      | exact q.elim
      | (rename_i i j
         simp only [Lg.bop] at q
         split at q
         · rename_i hz
           refine .inl ⟨i, j, rfl, rfl, ?_, q.here rs _ (.int _)⟩
           unfold CMulX
           rw [← bits_eq, ← bits_eq]
           have e : Lg.bitsLine = 134217728 := rfl
           omega
         · exact q.elim)
      | (rename_i a vs ds h n r k
         simp only [Lg.bop] at q
         split at q
         · rename_i hz
           obtain ⟨h0, h1, h2⟩ := Lg.chk_iff.mp hz
           rw [size_eq] at h1
           exact .inr (.inl ⟨a, k, vs, rfl, rfl, h, by omega, by omega, by rw [r.length]; exact h1, new_scr rs (r.flat _) q⟩)
         · exact q.elim)
      | (rename_i a vs ds t r k
         simp only [Lg.bop] at q
         split at q
         · rename_i hz
           obtain ⟨h0, h1, h2⟩ := Lg.chk_iff.mp hz
           by_cases hv : vs = [] ∨ k = 1
           · refine .inr (.inr (.inr (.inl ⟨a, k, vs, rfl, rfl, t.sq, h0, h1, hv, ?_⟩)))
             have e : (List.replicate k.toNat ds).flatten = ds := by
               rcases hv with e | e
               · subst e; cases r; simp
               · subst e; simp
             rw [e] at q
             exact q.here rs _ (.tup t r)
           · have hv1 : vs ≠ [] := fun z => hv (.inl z)
             have hv2 : k ≠ 1 := fun z => hv (.inr z)
             by_cases hk : k ≤ 0
             · refine .inr (.inr (.inr (.inr ⟨a, k, vs, rfl, rfl, t.sq, h0, hk, hv1, ?_⟩)))
               rw [show k.toNat = 0 by omega] at q
               exact new_tup rs .nil q
             · refine .inr (.inr (.inl ⟨a, k, vs, rfl, rfl, t.sq, hv1, by omega, h1, by rw [r.length]; exact h2, ?_⟩))
               exact new_tup rs (r.flat _) q
         · exact q.elim)
  | fdiv =>
    cases hx <;> cases hy <;> first
      | exact q.elim
      | (rename_i i j
         simp only [Lg.bop] at q
         split at q
         · rename_i hz; exact ⟨i, j, rfl, rfl, hz, q.here rs _ (.int _)⟩
         · exact q.elim)
  | mod =>
    cases hx <;> cases hy <;> first
      | exact q.elim
      | (rename_i i j
         simp only [Lg.bop] at q
         split at q
         · rename_i hz; exact ⟨i, j, rfl, rfl, hz, q.here rs _ (.int _)⟩
         · exact q.elim)
  | pow =>
    cases hx <;> cases hy <;> first
      | exact q.elim
      | (rename_i i j
         simp only [Lg.bop] at q
         split at q
         · rename_i hz; exact ⟨i, j, rfl, rfl, Lg.chk_iff.mp hz, q.here rs _ (.int _)⟩
         · exact q.elim)
  | shl =>
    cases hx <;> cases hy <;> first
      | exact q.elim
      | (rename_i i j
         simp only [Lg.bop] at q
         split at q
         · rename_i hz; exact ⟨i, j, rfl, rfl, Lg.chk_iff.mp hz, q.here rs _ (.int _)⟩
         · exact q.elim)
theorem mrep_read (rs : RepSt K φ H st) {x y : V} {dx dy : Lg.D} (hx : Rep K φ H x dx) (hy : Rep K φ H y dy) {Q : VK} (q : Pst K cv W σ φ H (Lg.mrep dx dy st) (kQ K Q)) : rB K .mul x y H Q := by
  cases hx <;> cases hy <;> first
    | exact q.elim
    | (rename_i a vs ds h n r k
       simp only [Lg.mrep] at q
       split at q
       · rename_i hz
         obtain ⟨h0, h1, h2⟩ := Lg.chk_iff.mp hz
         rw [size_eq] at h1
         exact .inr (.inl ⟨a, k, vs, rfl, rfl, h, by omega, by omega, by rw [r.length]; exact h1, new_list (m := true) rs (r.flat _) q⟩)
       · exact q.elim)
theorem own_read (rs : RepSt K φ H st) {x : V} {d : Lg.D} (hx : Rep K φ H x d) {ds : List Lg.D} (e : Lg.ownL st d = some ds) : ∃ a vs, x = .ref a ∧ H a = some (.lst vs) ∧ Reps K φ H vs ds := by
  cases hx with
  | scr h n r => simp only [Lg.ownL, Option.some.injEq] at e; subst e; exact ⟨_, _, rfl, h, r⟩
  | @ref l a h1 =>
    simp only [Lg.ownL] at e
    split at e
    · rename_i xs q
      cases e
      obtain ⟨b, vs, g1, g2, g3⟩ := rs.cell l _ q
      rw [h1] at g1; cases g1
      exact ⟨_, vs, rfl, g2, g3⟩
    · cases e
  | _ => simp [Lg.ownL] at e
theorem madd_read (rs : RepSt K φ H st) {x y : V} {dx dy : Lg.D} (hx : Rep K φ H x dx) (hy : Rep K φ H y dy) {Q : VK} (q : Pst K cv W σ φ H (Lg.madd dx dy st) (kQ K Q)) : rB K .add x y H Q := by
  unfold Lg.madd at q
  split at q
  · rename_i xs ys e1 e2
    split at q
    · rename_i hz
      obtain ⟨a, vs, rfl, h, r⟩ := own_read rs hx e1
      obtain ⟨b, us, rfl, h', r'⟩ := own_read rs hy e2
      rw [size_eq] at hz
      exact .inr (.inr ⟨a, b, vs, us, rfl, rfl, h, h', by rw [r.length, r'.length]; exact hz, new_list (m := true) rs (r.append r') q⟩)
    · exact q.elim
  · exact q.elim
end
end So
namespace So
open PySem PySem.Spec PyProof.Rows L2
section
variable {X : L2.Cx}
/-! ### comparisons -/
/-- x in a tuple of any data -/
def rInT (K : PySem.W.Frag) : R2 := fun x y H Q => ∃ d ds, Dp K H x d ∧ Dp K H y (.tuple ds) ∧ SeqAt.shaped d = true ∧ SeqAt.shaped (.tuple ds) = true ∧ Q (.bl (ds.any fun z => PyData.eqv z d)) H
theorem op_inT {X : L2.Cx} (hu : X.A.units + 65 < cLine) : OpR X (compareOp .In) (rInT X.K) := by
  intro pins s σ H x y v u Q I rx ry h
  obtain ⟨d, ds, hd, he, sd, se, q⟩ := h
  obtain ⟨as, r1⟩ := Dp.reads I d x v hd rx
  obtain ⟨bs, r2⟩ := Dp.reads I (.tuple ds) y u he ry
  exact SeqAt.in_tuple_reads r2 r1 (SeqAt.canLay_of_shaped se) (SeqAt.canLay_of_shaped sd) (room_in_shaped sd hu) ⟨.bl _, H, I, rfl, q⟩
def rC (K : PySem.W.Frag) : Lg.Cop → R2
  | .eq => rEqD K
  | .ne => rNeD K
  | .lt => rI0 fun i j => .bl (decide (i < j))
  | .le => rI0 fun i j => .bl (decide (i ≤ j))
  | .gt => rI0 fun i j => .bl (decide (j < i))
  | .ge => rI0 fun i j => .bl (decide (j ≤ i))
  | .is => fun x y H Q => (y = .non ∧ Q (.bl (decide (x = .non))) H) ∨ ∃ a b, x = .bl a ∧ y = .bl b ∧ Q (.bl (decide (a = b))) H
  | .isNot => fun x y H Q => (y = .non ∧ Q (.bl (!decide (x = .non))) H) ∨ ∃ a b, x = .bl a ∧ y = .bl b ∧ Q (.bl (!decide (a = b))) H
  | .isin => fun x y H Q => rIn K false x y H Q ∨ rInD K x y H Q ∨ rInT K x y H Q
  | .notIn => fun x y H Q => rIn K true x y H Q ∨ rNotInD K x y H Q
theorem cop_rule (hu : X.A.units + 65 < cLine) : ∀ op : Lg.Cop, OpR X (compareOp (opC op)) (rC X.K op)
  | .eq => op_eqD (by omega)
  | .ne => op_neD (by omega)
  | .lt => op_lt
  | .le => op_le
  | .gt => op_gt
  | .ge => op_ge
  | .is => OpR.or op_isN op_is_bl
  | .isNot => OpR.or op_notN op_isnot_bl
  | .isin => OpR.or op_in_seq (OpR.or (op_inD hu) (op_inT hu))
  | .notIn => OpR.or op_notIn_seq (op_notInD hu)
end
section
variable {K : PySem.W.Frag} {cv : String → Value} {W : WX} {σ : L2.St} {φ : Ph} {H : Hp} {st : Lg.Store}
theorem flat_rep {v : V} {d : Lg.D} (h : Rep K φ H v d) (f : Lg.flat d = true) : flatV v = true := by
  cases h <;> first | rfl | (simp [Lg.flat] at f)
theorem flat_reps : ∀ {vs : List V} {ds : List Lg.D}, Reps K φ H vs ds → ds.all Lg.flat = true → vs.all flatV = true
  | _, _, .nil, _ => rfl
  | _, _, .cons a r, f => by
    simp only [List.all_cons, Bool.and_eq_true] at f ⊢
    exact ⟨flat_rep a f.1, flat_reps r f.2⟩
theorem eqV_deq {v u : V} {d e : Lg.D} (h : Rep K φ H v d) (h' : Rep K φ H u e) (f : Lg.flat d = true) (f' : Lg.flat e = true) : eqV v u = Lg.deq d e := by
  cases h <;> cases h' <;> first
    | (simp only [eqV, Lg.deq, str_beq]; done)
    | (simp [Lg.flat] at f; done)
    | (simp [Lg.flat] at f'; done)
theorem inV_any {v : V} {d : Lg.D} (h : Rep K φ H v d) (f : Lg.flat d = true) : ∀ {vs : List V} {ds : List Lg.D}, Reps K φ H vs ds → ds.all Lg.flat = true → inV v vs = ds.any fun y => Lg.deq y d
  | _, _, .nil, _ => rfl
  | _, _, .cons a r, g => by
    simp only [List.all_cons, Bool.and_eq_true] at g
    have ih := inV_any h f r g.2
    unfold inV at ih ⊢
    rw [List.any_cons, List.any_cons, ih, eqV_deq a h g.1 f]
theorem non_rep {v : V} {d : Lg.D} (h : Rep K φ H v d) : Lg.isNon d = decide (v = .non) := by
  cases h <;> simp [Lg.isNon]
theorem cop_read (rs : RepSt K φ H st) (op : Lg.Cop) {x y : V} {dx dy : Lg.D} (hx : Rep K φ H x dx) (hy : Rep K φ H y dy) {Q : VK} (q : Pst K cv W σ φ H (Lg.cop op dx dy st) (kQ K Q)) : rC K op x y H Q := by
  have sh : ∀ {p : PyData}, p.depth ≤ 40 → p.canLay0 = true → SeqAt.shaped p = true := fun h1 h2 => by
    unfold SeqAt.shaped
    rw [h2, Bool.true_and]
    exact decide_eq_true (by omega)
  cases op with
  | eq =>
    simp only [Lg.cop] at q
    split at q
    · rename_i a b e1 e2
      obtain ⟨a1, a2, a3⟩ := rd_ok rs 40 _ _ _ hx e1
      obtain ⟨b1, b2, b3⟩ := rd_ok rs 40 _ _ _ hy e2
      refine ⟨py a, py b, a1, b1, sh a2 a3, sh b2 b3, ?_⟩
      rw [eqv_deq a b (rd_tidy st 40 _ _ e1) (rd_tidy st 40 _ _ e2)]
      exact q.here rs _ (.bl _)
    · exact q.elim
  | ne =>
    simp only [Lg.cop] at q
    split at q
    · rename_i a b e1 e2
      obtain ⟨a1, a2, a3⟩ := rd_ok rs 40 _ _ _ hx e1
      obtain ⟨b1, b2, b3⟩ := rd_ok rs 40 _ _ _ hy e2
      refine ⟨py a, py b, a1, b1, sh a2 a3, sh b2 b3, ?_⟩
      rw [eqv_deq a b (rd_tidy st 40 _ _ e1) (rd_tidy st 40 _ _ e2)]
      exact q.here rs _ (.bl _)
    · exact q.elim
  | lt | le | gt | ge =>
    cases hx <;> cases hy <;> first
      | exact q.elim
      | (rename_i i j; exact ⟨i, j, rfl, rfl, q.here rs _ (.bl _)⟩)
  | is =>
    cases hy with
    | non => exact .inl ⟨rfl, by rw [← non_rep hx]; exact q.here rs _ (.bl _)⟩
    | bl b => cases hx <;> first
        | exact q.elim
        | exact .inr ⟨_, _, rfl, rfl, q.here rs _ (.bl _)⟩
    | _ => exact q.elim
  | isNot =>
    cases hy with
    | non => exact .inl ⟨rfl, by rw [← non_rep hx]; exact q.here rs _ (.bl _)⟩
    | bl b => cases hx <;> first
        | exact q.elim
        | exact .inr ⟨_, _, rfl, rfl, q.here rs _ (.bl _)⟩
    | _ => exact q.elim
  | isin =>
    simp only [Lg.cop] at q
    split at q
    · rename_i ys e
      split at q
      · rename_i f
        rw [Bool.and_eq_true] at f
        obtain ⟨a, vs, e1, e2, e3⟩ := rs.seqOf hy e
        refine .inl ⟨a, vs, e1, e2, flat_rep hx f.1, flat_reps e3 f.2, ?_⟩
        rw [if_neg Bool.false_ne_true, inV_any hx f.1 e3 f.2]
        exact q.here rs _ (.bl _)
      · split at q
        · rename_i a zs e1 e2
          obtain ⟨a1, a2, a3⟩ := rd_ok rs 40 _ _ _ hx e1
          obtain ⟨b1, b2, b3⟩ := rd_ok rs 40 _ _ _ hy e2
          have ta := rd_tidy st 40 _ _ e1
          have tz := rd_tidy st 40 _ _ e2
          refine .inr (.inl ⟨py a, pys zs, a1, b1, sh a2 a3, sh b2 b3, ?_⟩)
          have key : ∀ l : List Lg.D, tidys l = true → ((pys l).any fun z => PyData.eqv z (py a)) = l.any fun z => Lg.deq z a := by
            intro l
            induction l with
            | nil => intro _; rfl
            | cons z r ih =>
              intro h
              simp only [tidys, Bool.and_eq_true] at h
              simp only [pys, List.any_cons, eqv_deq z a h.1 ta, ih h.2]
          rw [key zs (by simpa [tidy] using tz)]
          exact q.here rs _ (.bl _)
        · rename_i a zs e1 e2
          obtain ⟨a1, a2, a3⟩ := rd_ok rs 40 _ _ _ hx e1
          obtain ⟨b1, b2, b3⟩ := rd_ok rs 40 _ _ _ hy e2
          have ta := rd_tidy st 40 _ _ e1
          have tz := rd_tidy st 40 _ _ e2
          refine .inr (.inr ⟨py a, pys zs, a1, b1, sh a2 a3, sh b2 b3, ?_⟩)
          have key : ∀ l : List Lg.D, tidys l = true → ((pys l).any fun z => PyData.eqv z (py a)) = l.any fun z => Lg.deq z a := by
            intro l
            induction l with
            | nil => intro _; rfl
            | cons z r ih =>
              intro h
              simp only [tidys, Bool.and_eq_true] at h
              simp only [pys, List.any_cons, eqv_deq z a h.1 ta, ih h.2]
          rw [key zs (by simpa [tidy] using tz)]
          exact q.here rs _ (.bl _)
        · exact q.elim
    · exact q.elim
  | notIn =>
    simp only [Lg.cop] at q
    split at q
    · rename_i ys e
      split at q
      · rename_i f
        rw [Bool.and_eq_true] at f
        obtain ⟨a, vs, e1, e2, e3⟩ := rs.seqOf hy e
        refine .inl ⟨a, vs, e1, e2, flat_rep hx f.1, flat_reps e3 f.2, ?_⟩
        rw [if_pos rfl, inV_any hx f.1 e3 f.2]
        exact q.here rs _ (.bl _)
      · split at q
        · rename_i a zs e1 e2
          obtain ⟨a1, a2, a3⟩ := rd_ok rs 40 _ _ _ hx e1
          obtain ⟨b1, b2, b3⟩ := rd_ok rs 40 _ _ _ hy e2
          have ta := rd_tidy st 40 _ _ e1
          have tz := rd_tidy st 40 _ _ e2
          refine .inr ⟨py a, pys zs, a1, b1, sh a2 a3, sh b2 b3, ?_⟩
          have key : ∀ l : List Lg.D, tidys l = true → ((pys l).any fun z => PyData.eqv z (py a)) = l.any fun z => Lg.deq z a := by
            intro l
            induction l with
            | nil => intro _; rfl
            | cons z r ih =>
              intro h
              simp only [tidys, Bool.and_eq_true] at h
              simp only [pys, List.any_cons, eqv_deq z a h.1 ta, ih h.2]
          rw [key zs (by simpa [tidy] using tz)]
          exact q.here rs _ (.bl _)
        · exact q.elim
    · exact q.elim
/-- a comparison gives a truth value -/
theorem cop_bl (op : Lg.Cop) (x y : Lg.D) : (∃ b, Lg.cop op x y st = .ok (.bl b) st) ∨ Lg.cop op x y st = .bad := by
  cases op <;> simp only [Lg.cop] <;> (repeat' split) <;> first | exact .inl ⟨_, rfl⟩ | exact .inr rfl
/-! ### truth -/
theorem tru_read (rs : RepSt K φ H st) {v : V} {d : Lg.D} (h : Rep K φ H v d) {b : Bool} (e : Lg.truth st d = some b) : TruV K v H b := by
  have emp : ∀ {vs : List V} {ds : List Lg.D}, Reps K φ H vs ds → ds.isEmpty = vs.isEmpty := fun r => by cases r <;> rfl
  cases h with
  | non => simp [Lg.truth] at e; subst e; rfl
  | bl c => simp [Lg.truth] at e; subst e; rfl
  | int i => simp only [Lg.truth, Option.some.injEq] at e; subst e; rfl
  | str s => simp [Lg.truth] at e
  | fn s => simp [Lg.truth, Lg.listOf] at e
  | obj h1 => simp [Lg.truth, Lg.listOf] at e
  | tup h1 h2 =>
    simp only [Lg.truth, Option.some.injEq] at e
    subst e
    exact .inr (.inl ⟨_, h1.sq, by rw [emp h2]⟩)
  | scr h1 h2 h3 =>
    simp only [Lg.truth, Option.map_eq_some_iff] at e
    obtain ⟨xs, e1, e2⟩ := e
    subst e2
    obtain ⟨a, vs, g1, g2, g3⟩ := rs.listOf (.scr h1 h2 h3) e1
    cases g1
    exact .inl ⟨vs, g2, by rw [emp g3]⟩
  | fro h1 h2 =>
    simp only [Lg.truth, Option.map_eq_some_iff] at e
    obtain ⟨xs, e1, e2⟩ := e
    subst e2
    obtain ⟨a, vs, g1, g2, g3⟩ := rs.listOf (.fro h1 h2) e1
    cases g1
    exact .inl ⟨vs, g2, by rw [emp g3]⟩
  | ref h1 =>
    simp only [Lg.truth, Option.map_eq_some_iff] at e
    obtain ⟨xs, e1, e2⟩ := e
    subst e2
    obtain ⟨a, vs, g1, g2, g3⟩ := rs.listOf (.ref h1) e1
    cases g1
    exact .inl ⟨vs, g2, by rw [emp g3]⟩
/-! ### subscripts -/
theorem ixN_eq (n : Nat) (i : Int) : Lg.ixN n i = L2.ixN n i := rfl
theorem atI_rep {vs : List V} {ds : List Lg.D} (r : Reps K φ H vs ds) {i : Int} {d : Lg.D} (e : Lg.atI ds i = some d) : ∃ v, L2.atI vs i = some v ∧ Rep K φ H v d := by
  unfold Lg.atI at e
  cases q : Lg.ixN ds.length i with
  | none => rw [q] at e; cases e
  | some j =>
    rw [q] at e
    obtain ⟨v, h1, h2⟩ := r.get e
    refine ⟨v, ?_, h2⟩
    unfold L2.atI
    rw [r.length, ← ixN_eq, q]
    exact h1
theorem ix_read (rs : RepSt K φ H st) {x y : V} {dx dy : Lg.D} (hx : Rep K φ H x dx) (hy : Rep K φ H y dy) {Q : VK} (q : Pst K cv W σ φ H (Lg.index dx dy st) (kQ K Q)) : rIx K x y H Q := by
  unfold Lg.index at q
  cases hy <;> first
    | exact q.elim
    | skip
  rename_i i
  simp only at q
  split at q
  · rename_i d e
    obtain ⟨ys, e1, e2⟩ := Option.bind_eq_some_iff.mp e
    obtain ⟨a, vs, g1, g2, g3⟩ := rs.seqOf hx e1
    obtain ⟨v, k1, k2⟩ := atI_rep g3 e2
    rcases g2 with g2 | g2
    · exact .inl ⟨a, vs, i, v, g1, rfl, g2, k1, q.here rs _ k2⟩
    · exact .inr (.inl ⟨a, vs, i, v, g1, rfl, g2, k1, q.here rs _ k2⟩)
  · exact q.elim
theorem sIx_eq (n d : Nat) (o : Option Int) : Lg.sIx n d o = HT.sIx n d o := by
  cases o with
  | none => rfl
  | some v =>
    unfold Lg.sIx HT.sIx
    by_cases h : v < 0
    · simp only [h, if_true]
      try omega
    · simp only [h, if_false]
      try omega
theorem cut_rep {vs : List V} {ds : List Lg.D} (r : Reps K φ H vs ds) (lo hi : Option Int) : Reps K φ H (cutV vs lo hi) (Lg.cut ds lo hi) := by
  unfold cutV Lg.cut
  rw [sIx_eq, sIx_eq, r.length]
  exact (r.drop _).take _
def rSl (K : PySem.W.Frag) : V → Option Int → Option Int → Hp → VK → Prop := fun x lo hi H Q => rSlL K x lo hi H Q ∨ rSlA K x lo hi H Q
theorem sl_read (rs : RepSt K φ H st) {x : V} {dx : Lg.D} (hx : Rep K φ H x dx) (lo hi : Option Int) {Q : VK} (q : Pst K cv W σ φ H (Lg.sliced dx lo hi st) (kQ K Q)) : rSl K x lo hi H Q := by
  have lists : ∀ {ds : List Lg.D}, Lg.listOf st dx = some ds → Pst K cv W σ φ H (.ok (.scr (Lg.cut ds lo hi)) st) (kQ K Q) → rSl K x lo hi H Q := fun {ds} e q => by
    obtain ⟨a, vs, g1, g2, g3⟩ := rs.listOf hx e
    exact .inl ⟨a, vs, g1, g2, new_scr rs (cut_rep g3 lo hi) q⟩
  cases hx with
  | @tup a vs ds h1 h2 =>
    simp only [Lg.sliced] at q
    refine .inr ⟨_, _, rfl, h1.sq, fun e => ?_, fun _ => new_tup rs (cut_rep h2 lo hi) q⟩
    have e2 : Lg.cut ds lo hi = ds := by
      unfold Lg.cut
      rw [sIx_eq, sIx_eq, ← h2.length, e.1, e.2, h2.length]
      simp
    rw [e2] at q
    exact q.here rs _ (.tup h1 h2)
  | scr h1 h2 h3 =>
    simp only [Lg.sliced] at q
    split at q
    · exact lists (by assumption) q
    · exact q.elim
  | fro h1 h2 =>
    simp only [Lg.sliced] at q
    split at q
    · exact lists (by assumption) q
    · exact q.elim
  | ref h1 =>
    simp only [Lg.sliced] at q
    split at q
    · exact lists (by assumption) q
    · exact q.elim
  | _ => simp [Lg.sliced, Lg.listOf] at q; exact q.elim
theorem sl_rule {X : L2.Cx} : SlR X (rSl X.K) := SlR.or sl_list sl_tupA
/-! ### stores -/
theorem set_read (rs : RepSt K φ H st) {x y v : V} {dx dy d : Lg.D} (hx : Rep K φ H x dx) (hy : Rep K φ H y dy) (hv : Rep K φ H v d) {Q : Hp → Prop} (q : Pst K cv W σ φ H (Lg.setIx dx dy d st) (fun _ _ _ H' => Q H')) : rSetL x y v H Q := by
  unfold Lg.setIx at q
  split at q
  · rename_i l k
    split at q
    · rename_i xs e
      split at q
      · rename_i j ej
        cases hx with
        | ref h1 =>
          cases hy with
          | int i =>
            obtain ⟨a, vs, g1, g2, g3⟩ := rs.cell l _ e
            rw [h1] at g1; cases g1
            obtain ⟨g, rs'⟩ := rs.write h1 (g3.set hv j)
            exact ⟨_, vs, k, j, rfl, rfl, g2, by rw [g3.length, ← ixN_eq]; exact ej, q _ _ g rs'⟩
      · exact q.elim
    · exact q.elim
  · exact q.elim
end
end So
namespace So
open PySem PySem.Spec PyProof.Rows L2
/-! ### numbers of a list -/
theorem maxOf_spec : ∀ (ns : List Int), ns ≠ [] → Lg.maxOf ns ∈ ns ∧ ∀ y ∈ ns, y ≤ Lg.maxOf ns
  | [], h => absurd rfl h
  | [x], _ => by simp [Lg.maxOf]
  | x :: y :: r, _ => by
    have ih := maxOf_spec (y :: r) (by simp)
    simp only [Lg.maxOf]
    split
    · exact ⟨List.mem_cons_of_mem _ ih.1, fun z hz => by
        rcases List.mem_cons.mp hz with e | hz
        · subst e; omega
        · exact ih.2 z hz⟩
    · exact ⟨List.mem_cons_self, fun z hz => by
        rcases List.mem_cons.mp hz with e | hz
        · subst e; omega
        · have := ih.2 z hz; omega⟩
theorem minOf_spec : ∀ (ns : List Int), ns ≠ [] → Lg.minOf ns ∈ ns ∧ ∀ y ∈ ns, Lg.minOf ns ≤ y
  | [], h => absurd rfl h
  | [x], _ => by simp [Lg.minOf]
  | x :: y :: r, _ => by
    have ih := minOf_spec (y :: r) (by simp)
    simp only [Lg.minOf]
    split
    · exact ⟨List.mem_cons_of_mem _ ih.1, fun z hz => by
        rcases List.mem_cons.mp hz with e | hz
        · subst e; omega
        · exact ih.2 z hz⟩
    · exact ⟨List.mem_cons_self, fun z hz => by
        rcases List.mem_cons.mp hz with e | hz
        · subst e; omega
        · have := ih.2 z hz; omega⟩
theorem insInt_perm (x : Int) : ∀ l : List Int, (Lg.insInt x l).Perm (x :: l)
  | [] => .refl _
  | y :: r => by
    simp only [Lg.insInt]
    split
    · exact .refl _
    · exact ((insInt_perm x r).cons y).trans (.swap x y r)
theorem sortInts_perm : ∀ l : List Int, (Lg.sortInts l).Perm l
  | [] => .refl _
  | x :: r => (insInt_perm x _).trans ((sortInts_perm r).cons x)
theorem insInt_sorted (x : Int) : ∀ l : List Int, l.Pairwise (· ≤ ·) → (Lg.insInt x l).Pairwise (· ≤ ·)
  | [], _ => by simp [Lg.insInt]
  | y :: r, h => by
    simp only [Lg.insInt]
    rw [List.pairwise_cons] at h
    split
    · rename_i hxy
      rw [List.pairwise_cons]
      exact ⟨fun z hz => by
        rcases List.mem_cons.mp hz with e | hz
        · subst e; exact hxy
        · have := h.1 z hz; omega, by rw [List.pairwise_cons]; exact h⟩
    · rename_i hxy
      rw [List.pairwise_cons]
      refine ⟨fun z hz => ?_, insInt_sorted x r h.2⟩
      rcases List.mem_cons.mp ((insInt_perm x r).mem_iff.mp hz) with e | hz
      · subst e; omega
      · exact h.1 z hz
theorem sortInts_sorted : ∀ l : List Int, (Lg.sortInts l).Pairwise (· ≤ ·)
  | [] => by simp [Lg.sortInts]
  | x :: r => insInt_sorted x _ (sortInts_sorted r)
theorem sorted_one {l l' : List Int} (p : l.Perm l') (h : l.Pairwise (· ≤ ·)) (h' : l'.Pairwise (· ≤ ·)) : l = l' :=
  p.eq_of_pairwise (fun a b _ _ h1 h2 => Int.le_antisymm h1 h2) h h'
section
variable {X : L2.Cx}
/-! ### built-ins -/
def pname : Lg.Prim → String
  | .len => "len" | .abs => "abs" | .min2 => "min" | .max2 => "max" | .min1 => "min" | .max1 => "max" | .sum => "sum" | .any => "any" | .all => "all"
  | .int => "int" | .tuple => "tuple" | .list _ => "list" | .sorted => "sorted" | .anyT => "any"
abbrev RP := List V → Hp → VK → Prop
def rP (K : PySem.W.Frag) : Lg.Prim → RP
  | .len => fun xs H Q => ∃ p ys, xs = [.ref p] ∧ (SqL K H p ys ∨ SqT K H p ys) ∧ Q (.int ys.length) H
  | .abs => fun xs H Q => ∃ i, xs = [.int i] ∧ Q (.int (if i < 0 then -i else i)) H
  | .min2 => fun xs H Q => ∃ i j, xs = [.int i, .int j] ∧ Q (.int (if j < i then j else i)) H
  | .max2 => fun xs H Q => ∃ i j, xs = [.int i, .int j] ∧ Q (.int (if j > i then j else i)) H
  | .min1 => rMin K
  | .max1 => rMax K
  | .sum => rSum K
  | .any => rAny K
  | .all => rAll K
  | .int => fun xs H Q => (∃ i, xs = [.int i] ∧ Q (.int i) H) ∨ ∃ k, xs = [.bl k] ∧ Q (.int (if k then 1 else 0)) H
  | .tuple => fun xs H Q => ∃ p ys, xs = [.ref p] ∧ ((SqL K H p ys ∧ ∀ l, H l = none → Q (.ref l) (upd H l (.tup ys))) ∨ (SqT K H p ys ∧ Q (.ref p) H))
  | .list _ => fun xs H Q => ∃ p ys, xs = [.ref p] ∧ (SqL K H p ys ∨ SqT K H p ys) ∧ ∀ l, H l = none → Q (.ref l) (upd H l (.lst ys))
  | .sorted => fun xs H Q => rSorted K xs H Q ∨ rSortedT K xs H Q
  | .anyT => rAnyT K
def nstar : Expr → Bool
  | .Starred _ _ => false
  | _ => true
theorem star_cons {e : Expr} {es : List Expr} {env : PySem.Env} (h : nstar e = true) : starEach (e :: es) env = (false, eval e env) :: starEach es env := by
  cases e <;> first | rfl | cases h
theorem star_any {env : PySem.Env} {pos : Pos} : ∀ {es : List Expr}, es.all nstar = true → (backTo pos (starEach es env)).any (·.1) = false
  | [], _ => rfl
  | e :: es, h => by
    rw [List.all_cons, Bool.and_eq_true] at h
    rw [star_cons h.1]
    have ih := star_any (env := env) (pos := pos) h.2
    cases es with
    | nil => rfl
    | cons e2 es2 =>
      rw [List.all_cons, Bool.and_eq_true] at h
      rw [star_cons h.2.1] at ih ⊢
      exact ih
theorem prim_pe (hc : X.calm = true) (p : Lg.Prim) {pp pos : Pos} {e : Expr} {es : List Expr} {t : TA} (hg : Gl X (Str.ofString (pname p))) (hm : X.mg (Str.ofString (pname p)) = none) (ha : PA X (e :: es) t)
    (hs : (e :: es).all nstar = true) : PE X (.Call (.Name (Str.ofString (pname p)) pp) (e :: es) [] pos) (tCB (rP X.K p) t) := by
  have h1 : nstar e = true := by rw [List.all_cons, Bool.and_eq_true] at hs; exact hs.1
  have h2 : es.all nstar = true := by rw [List.all_cons, Bool.and_eq_true] at hs; exact hs.2
  cases p with
  | len => exact pe_callB call_len_seq hg hm (by decide +kernel) ha (by decide) (by decide) (star_cons h1) (star_any h2)
  | abs => exact pe_callB call_abs hg hm (by decide +kernel) ha (by decide) (by decide) (star_cons h1) (star_any h2)
  | min2 => exact pe_callB (call_min2 hc) hg hm (by decide +kernel) ha (by decide) (by decide) (star_cons h1) (star_any h2)
  | max2 => exact pe_callB (call_max2 hc) hg hm (by decide +kernel) ha (by decide) (by decide) (star_cons h1) (star_any h2)
  | min1 => exact pe_callB (cr_min hc) hg hm (by decide +kernel) ha (by decide) (by decide) (star_cons h1) (star_any h2)
  | max1 => exact pe_callB (cr_max hc) hg hm (by decide +kernel) ha (by decide) (by decide) (star_cons h1) (star_any h2)
  | sum => exact pe_callB (cr_sum hc) hg hm (by decide +kernel) ha (by decide) (by decide) (star_cons h1) (star_any h2)
  | any => exact pe_callB (cr_any hc) hg hm (by decide +kernel) ha (by decide) (by decide) (star_cons h1) (star_any h2)
  | all => exact pe_callB (cr_all hc) hg hm (by decide +kernel) ha (by decide) (by decide) (star_cons h1) (star_any h2)
  | int => exact pe_callTy call_int1 hg hm (by decide +kernel) ha (by decide) (by decide) (star_cons h1) (star_any h2)
  | tuple => exact pe_callTy call_tuple_of hg hm (by decide +kernel) ha (by decide) (by decide) (star_cons h1) (star_any h2)
  | list m => exact pe_callTy (x := Str.ofString "list") call_list_of hg hm (by decide +kernel) ha (by decide) (by decide) (star_cons h1) (star_any h2)
  | anyT => exact pe_callB (cr_anyT hc) hg hm (by decide +kernel) ha (by decide) (by decide) (star_cons h1) (star_any h2)
  | sorted => exact pe_callB (CallR.or cr_sorted cr_sortedT) hg hm (by decide +kernel) ha (by decide) (by decide) (star_cons h1) (star_any h2)
end
section
variable {K : PySem.W.Frag} {cv : String → Value} {W : WX} {σ : L2.St} {φ : Ph} {H : Hp} {st : Lg.Store}
theorem prim_read (rs : RepSt K φ H st) (p : Lg.Prim) {xs : List V} {ds : List Lg.D} (hx : Reps K φ H xs ds) {Q : VK} (q : Pst K cv W σ φ H (Lg.prim p ds st) (kQ K Q)) : rP K p xs H Q := by
  have intL : ∀ {x : V} {d : Lg.D} {ns : List Int}, Rep K φ H x d → (Lg.listOf st d).bind Lg.intsD = some ns → ∃ a, x = .ref a ∧ SqL K H a (ns.map V.int) := fun {x d ns} h e => by
    obtain ⟨es, e1, e2⟩ := Option.bind_eq_some_iff.mp e
    obtain ⟨a, vs, g1, g2, g3⟩ := rs.listOf h e1
    rw [Reps.intsD g3 e2] at g2
    exact ⟨a, g1, g2⟩
  have blL : ∀ {x : V} {d : Lg.D} {ns : List Bool}, Rep K φ H x d → (Lg.listOf st d).bind Lg.bools = some ns → ∃ a, x = .ref a ∧ SqL K H a (ns.map V.bl) := fun {x d ns} h e => by
    obtain ⟨es, e1, e2⟩ := Option.bind_eq_some_iff.mp e
    obtain ⟨a, vs, g1, g2, g3⟩ := rs.listOf h e1
    rw [Reps.bools g3 e2] at g2
    exact ⟨a, g1, g2⟩
  cases hx with
  | nil => cases p <;> exact q.elim
  | cons h1 r =>
    rename_i v vs d es
    cases r with
    | nil =>
      cases p with
      | len =>
        simp only [Lg.prim] at q
        split at q
        · rename_i ys e
          obtain ⟨a, us, g1, g2, g3⟩ := rs.seqOf h1 e
          refine ⟨a, us, by rw [g1], g2, ?_⟩
          rw [g3.length]
          exact q.here rs _ (.int _)
        · exact q.elim
      | abs =>
        cases h1 <;> first
          | exact q.elim
          | exact ⟨_, rfl, q.here rs _ (.int _)⟩
      | min2 => cases h1 <;> exact q.elim
      | max2 => cases h1 <;> exact q.elim
      | sum =>
        simp only [Lg.prim] at q
        split at q
        · rename_i ns e
          obtain ⟨a, g1, g2⟩ := intL h1 e
          exact ⟨a, ns, by rw [g1], g2, q.here rs _ (.int _)⟩
        · exact q.elim
      | max1 =>
        simp only [Lg.prim] at q
        split at q
        · rename_i n ns e
          obtain ⟨a, g1, g2⟩ := intL h1 e
          obtain ⟨k1, k2⟩ := maxOf_spec (n :: ns) (by simp)
          refine ⟨a, n :: ns, by rw [g1], g2, by simp, fun m hm hall => ?_⟩
          have em : m = Lg.maxOf (n :: ns) := Int.le_antisymm (k2 m hm) (hall _ k1)
          rw [em]
          exact q.here rs _ (.int _)
        · exact q.elim
      | min1 =>
        simp only [Lg.prim] at q
        split at q
        · rename_i n ns e
          obtain ⟨a, g1, g2⟩ := intL h1 e
          obtain ⟨k1, k2⟩ := minOf_spec (n :: ns) (by simp)
          refine ⟨a, n :: ns, by rw [g1], g2, by simp, fun m hm hall => ?_⟩
          have em : m = Lg.minOf (n :: ns) := Int.le_antisymm (hall _ k1) (k2 m hm)
          rw [em]
          exact q.here rs _ (.int _)
        · exact q.elim
      | any =>
        simp only [Lg.prim] at q
        split at q
        · rename_i bs e
          obtain ⟨a, g1, g2⟩ := blL h1 e
          exact ⟨a, bs, by rw [g1], g2, q.here rs _ (.bl _)⟩
        · exact q.elim
      | all =>
        simp only [Lg.prim] at q
        split at q
        · rename_i bs e
          obtain ⟨a, g1, g2⟩ := blL h1 e
          exact ⟨a, bs, by rw [g1], g2, q.here rs _ (.bl _)⟩
        · exact q.elim
      | anyT =>
        cases h1 with
        | tup t r =>
          simp only [Lg.prim] at q
          split at q
          · rename_i ns e
            have e2 := Reps.intsD r e
            subst e2
            exact ⟨_, ns, rfl, t.sq, q.here rs _ (.bl _)⟩
          · exact q.elim
        | _ => exact q.elim
      | int =>
        cases h1 <;> first
          | exact q.elim
          | exact .inl ⟨_, rfl, q.here rs _ (.int _)⟩
          | exact .inr ⟨_, rfl, q.here rs _ (.int _)⟩
      | tuple =>
        simp only [Lg.prim] at q
        split at q
        · rename_i ys e
          cases h1 with
          | tup t r =>
            simp only [Lg.seqOf, Option.some.injEq] at e
            subst e
            exact ⟨_, _, rfl, .inr ⟨t.sq, q.here rs _ (.tup t r)⟩⟩
          | scr t n r =>
            obtain ⟨a, us, g1, g2, g3⟩ := rs.listOf (.scr t n r) (show Lg.listOf st _ = some ys from e)
            cases g1
            exact ⟨_, _, rfl, .inl ⟨g2, new_tup rs g3 q⟩⟩
          | fro t r =>
            obtain ⟨a, us, g1, g2, g3⟩ := rs.listOf (.fro t r) (show Lg.listOf st _ = some ys from e)
            cases g1
            exact ⟨_, _, rfl, .inl ⟨g2, new_tup rs g3 q⟩⟩
          | ref t =>
            obtain ⟨a, us, g1, g2, g3⟩ := rs.listOf (.ref t) (show Lg.listOf st _ = some ys from e)
            cases g1
            exact ⟨_, _, rfl, .inl ⟨g2, new_tup rs g3 q⟩⟩
          | _ => simp [Lg.seqOf, Lg.listOf] at e
        · exact q.elim
      | list m =>
        simp only [Lg.prim] at q
        split at q
        · rename_i ys e
          obtain ⟨a, us, g1, g2, g3⟩ := rs.seqOf h1 e
          exact ⟨a, us, by rw [g1], g2, new_list rs g3 q⟩
        · exact q.elim
      | sorted =>
        simp only [Lg.prim] at q
        split at q
        · rename_i ns e
          split at q
          · rename_i hz
            obtain ⟨es, s1, s2⟩ := Option.bind_eq_some_iff.mp e
            obtain ⟨a, us, g1, g2, g3⟩ := rs.seqOf h1 s1
            rw [Reps.intsD g3 s2] at g2
            have en : ∀ ns' : List Int, ns'.Perm ns → ns'.Pairwise (· ≤ ·) → ns' = Lg.sortInts ns := fun ns' hp hs => sorted_one (hp.trans (sortInts_perm ns).symm) hs (sortInts_sorted ns)
            rcases g2 with g2 | g2
            · refine .inl ⟨a, ns, by rw [g1], g2, hz, fun ns' p hp hs hf => ?_⟩
              rw [en ns' hp hs]
              exact new_scr rs (reps_ints _) q p hf
            · refine .inr ⟨a, ns, by rw [g1], g2, hz, fun ns' p hp hs hf => ?_⟩
              rw [en ns' hp hs]
              exact new_scr rs (reps_ints _) q p hf
          · exact q.elim
        · exact q.elim
    | cons h2 r2 =>
      cases r2 with
      | nil =>
        cases p <;> first
          | (cases h1 <;> cases h2 <;> first | exact q.elim | exact ⟨_, _, rfl, q.here rs _ (.int _)⟩)
          | (cases h1 <;> exact q.elim)
          | exact q.elim
      | cons h3 r3 =>
        cases p <;> first
          | (cases h1 <;> cases h2 <;> exact q.elim)
          | (cases h1 <;> exact q.elim)
          | exact q.elim
/-! ### isinstance -/
def tname : Lg.Ty → String
  | .int => "int" | .bool => "bool" | .tuple => "tuple" | .str => "str" | .list => "list"
theorem ty_read (rs : RepSt K φ H st) {x : V} {d : Lg.D} (hx : Rep K φ H x d) (nf : Lg.noTy st d = false) : ∃ tn : String, TyX K H x (.type tn) ∧ ∀ t, kitB tn (tname t) = some (Lg.isTy st t d) := by
  cases hx with
  | non => exact ⟨"NoneType", .base .non, fun t => by cases t <;> (simp only [Lg.isTy, tname]; decide +kernel)⟩
  | bl b => exact ⟨"bool", .base (.bl b), fun t => by cases t <;> (simp only [Lg.isTy, tname]; decide +kernel)⟩
  | int i => exact ⟨"int", .base (.int i), fun t => by cases t <;> (simp only [Lg.isTy, tname]; decide +kernel)⟩
  | str s => exact ⟨"str", .base (.str _), fun t => by cases t <;> (simp only [Lg.isTy, tname]; decide +kernel)⟩
  | tup h1 h2 =>
    refine ⟨"tuple", ?_, fun t => by cases t <;> (simp only [Lg.isTy, tname]; decide +kernel)⟩
    rcases h1 with ⟨h, _⟩ | ⟨o, h, _⟩ | ⟨o, its, n, h, hc, _⟩
    · exact .base (.tup h)
    · exact .fTuple h
    · exact .kTuple h hc
  | scr h1 h2 h3 => exact ⟨"list", .base (.lst h1), fun t => by cases t <;> (simp only [Lg.isTy, tname]; decide +kernel)⟩
  | fro h1 h2 =>
    refine ⟨"list", ?_, fun t => by cases t <;> (simp only [Lg.isTy, tname]; decide +kernel)⟩
    rcases h1 with ⟨h, _⟩ | ⟨o, h, _⟩ | ⟨o, its, n, h, hc, _⟩
    · exact .base (.lst h)
    · exact .base (.frz h)
    · exact .kList h hc
  | obj h1 => cases nf
  | @ref l a h1 =>
    have hl : l < st.length := by rw [← rs.len]; exact (List.getElem?_eq_some_iff.mp h1).1
    obtain ⟨ds, ec⟩ : ∃ ds, st[l]? = some (.lst ds) := by
      cases q : st[l] with
      | lst ds => exact ⟨ds, by rw [List.getElem?_eq_getElem hl, q]⟩
      | ins C ns ds =>
        unfold Lg.noTy at nf
        simp only [List.getElem?_eq_getElem hl, q] at nf
        cases nf
    obtain ⟨b, vs, h2, e, _⟩ := rs.cell l ds ec
    rw [h1] at h2; cases h2
    exact ⟨"list", .base (.lst e), fun t => by cases t <;> (simp only [Lg.isTy, tname]; decide +kernel)⟩
  | fn x => cases nf
theorem isi_read (rs : RepSt K φ H st) (t : Lg.Ty) {x : V} {d : Lg.D} (hx : Rep K φ H x d) {Q : VK} (q : Pst K cv W σ φ H (if Lg.noTy st d then .bad else .ok (.bl (Lg.isTy st t d)) st) (kQ K Q)) : rIsi K [x, .ty (tname t)] H Q := by
  split at q
  · exact q.elim
  rename_i nf
  obtain ⟨tn, ty, e⟩ := ty_read rs hx (by simpa using nf)
  exact ⟨x, _, _, _, _, rfl, .ty _, ty, kit_ty (e t), q.here rs _ (.bl _)⟩
theorem isi2_read (rs : RepSt K φ H st) (t u : Lg.Ty) {x : V} {d : Lg.D} (hx : Rep K φ H x d) {Q : VK} (q : Pst K cv W σ φ H (if Lg.noTy st d then .bad else .ok (.bl (Lg.isTy st t d || Lg.isTy st u d)) st) (kQ K Q)) {p : Addr} (hp : H p = none) :
    rIsiT K [x, .ref p] (upd H p (.tup [.ty (tname t), .ty (tname u)])) Q := by
  split at q
  · exact q.elim
  rename_i nf
  obtain ⟨g, rs'⟩ := rs.lay hp (.tup [.ty (tname t), .ty (tname u)])
  obtain ⟨tn, ty, e⟩ := ty_read rs' (hx.grow g) (by simpa using nf)
  refine ⟨x, p, _, _, _, _, rfl, upd_same, .cons (.ty _) (.cons (.ty _) .nil), ty, kitAny_cons (kit_ty (e t)) (fun h1 => kitAny_cons (kit_ty (e u)) (fun h2 => ?_) fun h2 => ?_) (fun h1 => ?_), q _ _ g rs' _ (.bl _)⟩
  · rw [h1, h2]; exact kitAny_nil
  · rw [h1, h2]; rfl
  · rw [h1]; rfl
/-! ### methods -/
def mname : Lg.Meth → String
  | .append => "append" | .pop => "pop" | .extend => "extend" | .bitLength => "bit_length" | .index => "index"
end
end So
namespace So
open PySem PySem.Spec PyProof.Rows L2
def mar : Lg.Meth → Nat
  | .append | .extend | .index => 1
  | .pop | .bitLength => 0
/-! ### what is known of a block's text -/
structure SC where
  sc : Scope
  fnb : Str → Bool
  fs : List String
  gs : List String
  xs : List String
  cs : List (String × Lg.D)
  ks : List String
  calm : Bool
def SC.blk (S : SC) (scope : Scope) : SC := { S with sc := relS scope S.sc, fnb := fun x => scope.names.lookup x == some .cell }
def visB (sc : Scope) (x : Str) : Bool := decide (sc.names.lookup x = some .local) || (decide (sc.names.lookup x = some .cell) || decide (sc.names.lookup x = some .free))
def locB (sc : Scope) (x : Str) : Bool := decide (sc.names.lookup x = some .local) || decide (sc.names.lookup x = some .cell)
def glb (sc : Scope) (x : Str) : Bool := decide (sc.names.lookup x = some .globalImplicit)
def okName (x : Str) : Bool := !(x == ("__debug__" : Str)) && !(x == ("__classdict__" : Str))
def noSet : Expr → Bool
  | .Set _ _ _ => false
  | _ => true
def noSlice : Expr → Bool
  | .Slice _ _ _ _ => false
  | _ => true
def noComp : Expr → Bool
  | .ListComp _ _ _ _ => false
  | .SetComp _ _ _ _ => false
  | .DictComp _ _ _ _ _ => false
  | _ => true
/-- a test that asks the value itself -/
def plainT : Expr → Bool
  | .UnaryOp .Not _ _ => false
  | .BoolOp _ _ _ => false
  | .IfExp _ _ _ _ => false
  | .Compare _ _ _ _ => false
  | _ => true
def plainBase : Expr → Bool
  | .Name _ _ => true
  | .Subscript _ _ _ => true
  | .Attribute _ _ _ => true
  | _ => false
def tailB (op : BoolOp) (y : Expr) (r : List Expr) (pos : Pos) : Expr := match r with
  | [] => y
  | _ => .BoolOp op (y :: r) pos
/-- does the statement name = e store within the comprehension's frame? -/
def swb (sc : Scope) (y : Str) (py : Pos) : Expr → Bool
  | .ListComp _ _ s pos => decide (sc.names.lookup y = some .local) && (py.line == pos.line) && !(s.names.any fun (n, k) => n == y && (k == .local || k == .cell))
  | _ => false
def noTuple : Expr → Bool
  | .Tuple _ _ _ => false
  | _ => true
def isNm : Expr → Bool
  | .Name _ _ => true
  | _ => false
/-- a, b = x, y is stored in the swapped order -/
def parB (sc : Scope) (x y : Str) (px py : Pos) (a b : Expr) : Bool :=
  decide (sc.names.lookup x = some .local) && decide (sc.names.lookup y = some .local) && (px.line == py.line) && !(x == y) && nstar a && nstar b &&
    !([a, b].all (foldedForSure 8)) && !([a, b].all (constantsAlone 8))
/-- the targets are not all plain names, or the value is no written tuple -/
def noSwap (ts : List Expr) (e : Expr) : Bool := noTuple e || !(ts.all isNm)
/-- a comprehension out of which exceptions may go has no rule as a value that is set -/
def plainC : Lg.E → Bool
  | .compx _ _ _ _ _ _ => false
  | _ => true
def ownOf (N : List Str) (own : List Nat) : List (Str × Nat) := own.map fun i => (N.getD i Str.empty, i)
mutual
def slots : Lg.Tg → List Nat
  | .nm i => [i]
  | .tp ts => slotss ts
  | .ix _ _ => []
def slotss : Lg.Tgs → List Nat
  | .nil => []
  | .cons t ts => slots t ++ slotss ts
end
mutual
def onlyNm : Lg.Tg → Bool
  | .nm _ => true
  | .tp ts => onlyNms ts
  | .ix _ _ => false
def onlyNms : Lg.Tgs → Bool
  | .nil => true
  | .cons t ts => onlyNm t && onlyNms ts
end
mutual
def chkE (N : List Str) : SC → Lg.E → Expr → Bool
  | _, .non, .Constant .none _ _ => true
  | _, .bl b, .Constant (.bool c) _ _ => b == c
  | _, .int i, .Constant (.int j) _ _ => decide (i = j)
  | _, .str s, .Constant (.str t) _ _ => decide (t = Str.ofString s)
  | S, .var i, .Name x _ => decide (N[i]? = some x) && visB S.sc x && okName x
  | S, .glob s, .Name x _ => decide (x = Str.ofString s) && glb S.sc x && okName x && S.gs.contains s
  | S, .con d, .Name x _ => glb S.sc x && okName x && S.cs.any (fun p => decide (x = Str.ofString p.1) && decide (p.2 = d))
  | S, .bin op a b, .BinOp l o r _ => decide (o = opB op) && chkE N S a l && chkE N S b r
  | S, .neg a, .UnaryOp .USub x _ => chkE N S a x
  | S, .not a, .UnaryOp .Not x _ => chkE N S a x
  | S, .cmp op a b, .Compare l [o] [r] _ => decide (o = opC op) && noSet r && chkE N S a l && chkE N S b r
  | S, .chain p q a b c, .Compare l [o, o'] [r, s] _ => decide (o = opC p) && decide (o' = opC q) && noSet s && chkE N S a l && chkE N S b r && chkE N S c s
  | S, .chain3 p q r a b c d, .Compare l [o, o', o2] [x, y, z] _ => decide (o = opC p) && decide (o' = opC q) && decide (o2 = opC r) && noSet z && chkE N S a l && chkE N S b x && chkE N S c y && chkE N S d z
  | S, .and a b, .BoolOp .And (x :: y :: r) pos => chkE N S a x && chkE N S b (tailB .And y r pos)
  | S, .or a b, .BoolOp .Or (x :: y :: r) pos => chkE N S a x && chkE N S b (tailB .Or y r pos)
  | S, .ite c a b, .IfExp t x y _ => chkE N S c t && chkE N S a x && chkE N S b y
  | S, .call f as, .Call (.Name x _) es [] _ => decide (x = Str.ofString f) && glb S.sc x && okName x && S.calm && S.fs.contains f && chkEs N S as es
  | S, .prim p as, .Call (.Name x _) (e :: es) [] _ => decide (x = Str.ofString (pname p)) && glb S.sc x && S.calm && chkEs N S as (e :: es)
  | S, .isi t a, .Call (.Name x _) [e, .Name y _] [] _ => decide (x = ("isinstance" : Str)) && decide (y = Str.ofString (tname t)) && glb S.sc x && glb S.sc y && nstar e && chkE N S a e
  | S, .isi2 t u a, .Call (.Name x _) [e, .Tuple [.Name y _, .Name z _] _ _] [] _ => decide (x = ("isinstance" : Str)) && decide (y = Str.ofString (tname t)) && decide (z = Str.ofString (tname u)) && glb S.sc x && glb S.sc y && glb S.sc z && nstar e && chkE N S a e
  | S, .ix a i, .Subscript x y _ => noSlice y && chkE N S a x && chkE N S i y
  | S, .slice a lo hi, .Subscript x (.Slice l h none _) _ => chkE N S a x && chkEo N S lo l && chkEo N S hi h
  | S, .tup as, .Tuple es _ _ => chkEs N S as es
  | S, .lst _ as, .List es _ => chkEs N S as es
  | S, .comp _ own elt tg it c, .ListComp el [⟨t, i, ifs, a⟩] scope _ => S.calm && decide (a = 0) && noSet i && chkIt N S it i t && blkC N S.sc scope (ownOf N own) && onlyNm tg && (slots tg).all (fun j => own.contains j) &&
      chkTg N (S.blk scope) tg t && chkC N (S.blk scope) c ifs && chkE N (S.blk scope) elt el
  | S, .compx _ own elt tg it c, .ListComp el [⟨t, i, ifs, a⟩] scope _ => S.calm && decide (a = 0) && noSet i && chkIt N S it i t && blkC N S.sc scope (ownOf N own) && onlyNm tg && (slots tg).all (fun j => own.contains j) &&
      chkTg N (S.blk scope) tg t && chkC N (S.blk scope) c ifs && chkE N (S.blk scope) elt el
  | S, .lrange _ lo hi, .Call (.Name x _) [.Call (.Name y _) as [] _] [] _ => decide (x = ("list" : Str)) && decide (y = ("range" : Str)) && glb S.sc x && glb S.sc y && S.calm && (match lo, as with
      | .int 0, [b] => nstar b && chkE N S hi b
      | _, [a, b] => nstar a && nstar b && chkE N S lo a && chkE N S hi b
      | _, _ => false)
  | S, .lrep a b, .BinOp l o r _ => decide (o = opB .mul) && chkE N S a l && chkE N S b r
  | S, .ladd a b, .BinOp l o r _ => decide (o = opB .add) && chkE N S a l && chkE N S b r
  | S, .rev a, .Subscript x (.Slice none none (some (.UnaryOp .USub (.Constant (.int 1) _ _) _)) _) _ => chkE N S a x
  | S, .fnv f, .Name x _ => decide (x = Str.ofString f) && glb S.sc x && okName x && S.calm && S.fs.contains f
  | S, .callv i fs as, .Call (.Name x _) (e :: es) [] _ => decide (N[i]? = some x) && visB S.sc x && okName x && S.calm && fs.all (fun f => S.fs.contains f) && chkEs N S as (e :: es)
  | S, .meth m o as, .Call (.Attribute x f apos) es [] pos => S.calm && decide (f = Str.ofString (mname m)) && plainBase x && (apos.endLine == pos.line) && decide (es.length = mar m) && chkE N S o x && chkEs N S as es
  | S, .fld o f, .Attribute x y _ => decide (y = Str.ofString f) && plainBase x && chkE N S o x
  | S, .mk c as, .Call (.Name x _) es [] _ => decide (x = Str.ofString c) && glb S.sc x && okName x && S.calm && S.ks.contains c && chkEs N S as es
  | S, .mcall o c m as, .Call (.Attribute x y apos) es [] pos => S.calm && S.ks.contains c && decide (y = Str.ofString m) && plainBase x && (apos.endLine == pos.line) && decide (es.length < 30) && chkE N S o x && chkEs N S as es
  | _, _, _ => false
def chkEs (N : List Str) : SC → Lg.Es → List Expr → Bool
  | _, .nil, [] => true
  | S, .cons a as, e :: es => nstar e && chkE N S a e && chkEs N S as es
  | _, _, _ => false
def chkEo (N : List Str) : SC → Lg.Eo → Option Expr → Bool
  | _, .none, none => true
  | S, .some a, some e => chkE N S a e
  | _, _, _ => false
def chkC (N : List Str) : SC → Lg.Eo → List Expr → Bool
  | _, .none, [] => true
  | S, .some a, [e] => chkE N S a e
  | _, _, _ => false
def chkIt (N : List Str) : SC → Lg.It → Expr → Expr → Bool
  | S, .seq a, e, _ => chkE N S a e
  | S, .rng1 a, .Call (.Name x _) [e] [] _, _ => decide (x = ("range" : Str)) && glb S.sc x && nstar e && chkE N S a e
  | S, .rng2 a b, .Call (.Name x _) [e, f] [] _, _ => decide (x = ("range" : Str)) && glb S.sc x && nstar e && nstar f && chkE N S a e && chkE N S b f
  | S, .rng3 a b c, .Call (.Name x _) [e, f, g] [] _, _ => decide (x = ("range" : Str)) && glb S.sc x && nstar e && nstar f && nstar g && chkE N S a e && chkE N S b f && chkE N S c g
  | S, .enum a, .Call (.Name x _) [e] [] _, .Tuple _ _ _ => decide (x = ("enumerate" : Str)) && glb S.sc x && nstar e && chkE N S a e
  | S, .zip a b, .Call (.Name x _) [e, f] [] _, .Tuple _ _ _ => decide (x = ("zip" : Str)) && glb S.sc x && nstar e && nstar f && chkE N S a e && chkE N S b f
  | _, _, _, _ => false
def chkTg (N : List Str) : SC → Lg.Tg → Expr → Bool
  | S, .nm i, .Name x _ => decide (N[i]? = some x) && locB S.sc x && (S.fnb x || decide (S.sc.names.lookup x = some .local))
  | S, .tp ts, .Tuple es _ _ => S.calm && chkTgs N S ts es
  | S, .ix a i, .Subscript x y _ => noSlice y && chkE N S a x && chkE N S i y
  | _, _, _ => false
def chkTgs (N : List Str) : SC → Lg.Tgs → List Expr → Bool
  | _, .nil, [] => true
  | S, .cons t ts, e :: es => nstar e && chkTg N S t e && chkTgs N S ts es
  | _, _, _ => false
end
def isNm1 (n : Str) : Expr → Bool
  | .Name x _ => decide (x = n)
  | _ => false
def okCls (S : SC) (x : Str) (c : String) : Bool := decide (x = Str.ofString c) && glb S.sc x && okName x && (S.xs.contains c || decide (c = "ValueError"))
/-- what is asked of the error in n -/
def chkHE (S : SC) (n : Str) : Lg.HE → Expr → Bool
  | .isx [c], .Call (.Name x _) [e, .Name y _] [] _ => decide (x = ("isinstance" : Str)) && glb S.sc x && isNm1 n e && okCls S y c
  | .isx [c, d], .Call (.Name x _) [e, .Tuple [.Name y _, .Name z _] _ _] [] _ => decide (x = ("isinstance" : Str)) && glb S.sc x && isNm1 n e && okCls S y c && okCls S z d
  | .hnot a, .UnaryOp .Not v _ => chkHE S n a v
  | .hand a b, .BoolOp .And (x :: y :: r) pos => chkHE S n a x && chkHE S n b (tailB .And y r pos)
  | _, _ => false
def chkHR (S : SC) (n : Str) : Lg.HR → Expr → Bool
  | .b h, v => chkHE S n h v
  | .lb s h, .List [.Constant (.str t) _ _, v] _ => decide (t = Str.ofString s) && nstar v && chkHE S n h v
  | _, _ => false
mutual
def chkS (N : List Str) : SC → Lg.S → Stmt → Bool
  | S, .assign (.nm i) e, .Assign [.Name x px] v _ => chkTg N S (.nm i) (.Name x px) && plainC e && chkE N S e v
  | S, .assign (.ix a i) e, .Assign [.Subscript x y p] v _ => chkTg N S (.ix a i) (.Subscript x y p) && chkE N S e v
  | S, .assign (.tp ts) e, .Assign [.Tuple es k p] v _ => noSwap es v && chkTg N S (.tp ts) (.Tuple es k p) && chkE N S e v
  | S, .par2 i j a b, .Assign [.Tuple [.Name x px, .Name y py] _ _] (.Tuple [v, w] _ _) _ => S.calm && decide (N[i]? = some x) && decide (N[j]? = some y) && !(i == j) && parB S.sc x y px py v w && chkE N S a v && chkE N S b w
  | S, .aug i op e, .AugAssign (.Name x _) o v _ => decide (o = opB op) && decide (N[i]? = some x) && locB S.sc x && (S.fnb x || decide (S.sc.names.lookup x = some .local)) && chkE N S e v
  | S, .setf o f e, .Assign [.Attribute x y _] v _ => decide (y = Str.ofString f) && chkE N S o x && chkE N S e v
  | S, .augf o f op e, .AugAssign (.Attribute x y _) q v _ => decide (y = Str.ofString f) && decide (q = opB op) && chkE N S o x && chkE N S e v
  | S, .augi o i op e, .AugAssign (.Subscript x y _) q v _ => noSlice y && decide (q = opB op) && chkE N S o x && chkE N S i y && chkE N S e v
  | S, .expr e, .Expr v _ => noComp v && chkE N S e v
  | S, .ret e, .Return (some v) _ => chkE N S e v
  | _, .ret0, .Return none _ => true
  | S, .ite c a b, .If t x y _ => chkE N S c t && chkSs N S a x && chkSs N S b y
  | S, .while c b, .While t x [] _ => S.calm && chkE N S c t && chkSs N S b x
  | S, .for t it b, .For g i x [] _ => S.calm && noSet i && chkIt N S it i g && chkTg N S t g && chkSs N S b x
  | _, .stop, _ => true
  | _, .pass, .Pass _ => true
  | _, .brk, .Break _ => true
  | _, .cont, .Continue _ => true
  | S, .raise c, .Raise (some (.Call (.Name x _) as [] _)) none _ => S.calm && decide (x = Str.ofString c) && glb S.sc x && okName x && S.xs.contains c && (match as with
      | [.Constant (.str _) _ _] => true
      | _ => false)
  | S, .tryx b c h, .Try x [.ExceptHandler (some (.Name y _)) none (h0 :: hs) _] [] [] _ => S.calm && decide (y = Str.ofString c) && glb S.sc y && okName y && S.xs.contains c && chkSs N S b x && chkSs N { S with calm := false } h (h0 :: hs)
  | S, .trym b hs, .Try x (e0 :: es) [] [] _ => S.calm && chkSs N S b x && chkHs N S hs (e0 :: es)
  | _, _, _ => false
def chkHs (N : List Str) : SC → Lg.Hs → List ExceptHandler → Bool
  | _, .nil, [] => true
  | S, .plain c h r, .ExceptHandler (some (.Name y _)) none (h0 :: hs) _ :: es => decide (y = Str.ofString c) && glb S.sc y && okName y && S.xs.contains c && chkSs N { S with calm := false } h (h0 :: hs) && chkHs N S r es
  | S, .named c i x r, .ExceptHandler (some (.Name y _)) (some n) [.Return (some v) _] _ :: es => decide (y = Str.ofString c) && glb S.sc y && okName y && S.xs.contains c && decide (N[i]? = some n) && decide (S.sc.names.lookup n = some .local) && okName n && chkHR S n x v && chkHs N S r es
  | S, .named2 c i j s a b r, .ExceptHandler (some (.Name y _)) (some n) [.Assign [.Name g pg] v p1, .Return (some (.List [.Constant (.str t) _ _, .BoolOp .And (.Name g2 _ :: w :: ws) bp] _)) _] _ :: es => decide (y = Str.ofString c) && glb S.sc y && okName y && S.xs.contains c && decide (N[i]? = some n) && decide (S.sc.names.lookup n = some .local) && okName n &&
      decide (N[j]? = some g) && decide (S.sc.names.lookup g = some .local) && okName g && decide (g2 = g) && noComp v && decide (t = Str.ofString s) && chkHE S n a v && chkHE S n b (tailB .And w ws bp) && chkHs N S r es
  | _, _, _ => false
def chkSs (N : List Str) : SC → Lg.Ss → List Stmt → Bool
  | _, .nil, [] => true
  | S, .cons s ss, x :: xs => chkS N S s x && chkSs N S ss xs
  | _, _, _ => false
end
end So
namespace So
open PySem PySem.Spec PyProof.Rows L2
/-! ### readings -/
section
variable (K : PySem.W.Frag) (cv : String → Value) (W : WX) (C : Lg.Cx)
def tE (e : Lg.E) : TE := fun σ H Q => ∃ env st φ, REnv K φ H σ env ∧ RepSt K φ H st ∧ Pst K cv W σ φ H (Lg.ev C e env st) (kQ K Q)
def kA (Q : List V → Hp → Prop) : List Lg.D → Lg.Store → Ph → Hp → Prop := fun ds _ φ' H' => ∀ vs, Reps K φ' H' vs ds → Q vs H'
def tA (es : Lg.Es) : TA := fun σ H Q => ∃ env st φ, REnv K φ H σ env ∧ RepSt K φ H st ∧ Pst K cv W σ φ H (Lg.evs C es env st) (kA K Q)
def tT (e : Lg.E) : TT := fun σ H Q => ∃ env st φ, REnv K φ H σ env ∧ RepSt K φ H st ∧ Pst K cv W σ φ H (Lg.evt C e env st) (fun b _ _ H' => Q b H')
def tO (e : Lg.Eo) : TO := fun σ H Q => ∃ env st φ, REnv K φ H σ env ∧ RepSt K φ H st ∧ Pst K cv W σ φ H (Lg.evo C e env st) (fun o _ _ H' => Q o H')
def tCo (e : Lg.Eo) : TT := fun σ H Q => ∃ env st φ, REnv K φ H σ env ∧ RepSt K φ H st ∧ Pst K cv W σ φ H (Lg.evc C e env st) (fun b _ _ H' => Q b H')
/-- what is walked: the iterator's turns give the items, as long as the cells stay -/
def ItR (w : Lg.Walk) (J : It) (φ : Ph) (H : Hp) : Prop := ∀ φ2 H2 st2, GrowH φ H φ2 H2 → RepSt K φ2 H2 st2 → Lg.stays st2 w.keep = true →
  J.stop w.items.length H2 ∧ ∀ (i : Nat) (d : Lg.D), w.items[i]? = some d → J.go i H2 ∧ ∀ x H3, J.yld i H2 x H3 → Grow φ2 H2 φ2 H3 ∧ RepSt K φ2 H3 st2 ∧ Rep K φ2 H3 x d
def tI (it : Lg.It) : TI := fun σ H R => ∃ env st φ, REnv K φ H σ env ∧ RepSt K φ H st ∧ Pst K cv W σ φ H (Lg.evIt C it env st) (fun w _ φ' H' => ∀ J, ItR K w J φ' H' → R J H')
/-- a target: the slots that are not its own stay -/
def kG (σ : L2.St) (is : List Nat) (Q : L2.St → Hp → Prop) : Lg.Env → Lg.Store → Ph → Hp → Prop := fun env' _ φ' H' => ∀ σ', REnv K φ' H' σ' env' → (∀ j, j ∉ is → σ'[j]? = σ[j]?) → Q σ' H'
def tG (t : Lg.Tg) : TG := fun v σ H Q => ∃ d env st φ, Rep K φ H v d ∧ REnv K φ H σ env ∧ RepSt K φ H st ∧ Pst K cv W σ φ H (Lg.noexc (Lg.asg C t d env st)) (kG K σ (slots t) Q)
def tGs (ts : Lg.Tgs) : TGs := fun vs σ H Q => ∃ ds env st φ, Reps K φ H vs ds ∧ REnv K φ H σ env ∧ RepSt K φ H st ∧ Pst K cv W σ φ H (Lg.noexc (Lg.asgs C ts ds env st)) (kG K σ (slotss ts) Q)
/-- what a def promises: what the call gives -/
def spC (call : List Lg.D → Lg.Store → Lg.Out Lg.D) : Sp := fun vs H Q E => ∃ ds st φ, Reps K φ H vs ds ∧ RepSt K φ H st ∧ Pst K cv (fun cls d _ H' => E cls d H') [] φ H (call ds st) (kQ K Q)
end
def blts : List String := ["len", "abs", "min", "max", "sum", "any", "all", "int", "tuple", "list", "sorted", "isinstance", "range", "enumerate", "zip", "bool", "str"]
structure Ok (X : L2.Cx) (N : List Str) (S : SC) (C : Lg.Cx) (cv : String → Value) (W : WX) : Prop where
  hN : X.N = N
  nd : X.N.Nodup
  kind : X.env.scope.kind = .function
  hsc : X.env.scope = S.sc
  fn : ∀ x, S.fnb x = true → X.fn x = true
  calm : S.calm = true → X.calm = true
  hu : X.A.units + 65 < cLine
  tk : Takes X W
  xl : ∃ L, (S.calm = true → Fr X L) ∧ TakesL X L W
  blt : ∀ x ∈ blts, X.mg (Str.ofString x) = none
  own : S.calm = true → ∀ f ∈ S.fs, ∃ fa fd ps k, X.mg (Str.ofString f) = some (.ref fa) ∧ PySem.W.keepIn X.K (.ref fa) = true ∧ Room k X.A ∧ Binds X.K fd ps [] ∧ FnOk X.prog X.w X.K X.mg X.base (L2.CX X.prog X.w) k fa fd ps (spC X.K cv (C.call f))
  fnv : S.calm = true → ∀ f ∈ S.fs, X.mg (Str.ofString f) = some (.ref (He.ga X.K (Str.ofString f)))
  xc : ∀ c ∈ S.xs, ∃ Ca, X.mg (Str.ofString c) = some (.ref Ca) ∧ cv c = .ref Ca ∧ PySem.W.keepIn X.K (.ref Ca) = true ∧ Raises X (.ref Ca) ∧ ∃ B newId initId bmB, ExcBaseFacts B newId initId bmB ∧ PySem.W.excIn X.K Ca bmB newId = true
  gl : ∀ x ∈ S.gs, ∀ d, C.gl x = some d → ∃ u v, X.mg (Str.ofString x) = some u ∧ RelV v u ∧ ∀ φ H, Rep X.K φ H v d
  cn : ∀ p ∈ S.cs, ∃ u v, X.mg (Str.ofString p.1) = some u ∧ RelV v u ∧ ∀ φ H, Rep X.K φ H v p.2
  kls : S.calm = true → ∀ c ∈ S.ks, ∀ I, C.ci c = some I → X.mg (Str.ofString c) = some (.ref (He.ga X.K (Str.ofString c))) ∧ Kls X.K c I.ns ∧
    (∃ fa fd ps k, Mk X.K (He.ga X.K (Str.ofString c)) fa ∧ Room (k + 1) X.A ∧ Binds X.K fd ps [] ∧ FnOk X.prog X.w X.K X.mg X.base (L2.CX X.prog X.w) k fa fd ps (spC X.K cv (C.call I.init))) ∧
    ∀ m g, I.ms.lookup m = some g → ∃ fa fd ps k, Meth X.K (He.ga X.K (Str.ofString c)) (Str.ofString m) fa ∧ Room k X.A ∧ Binds X.K fd ps [] ∧ FnOk X.prog X.w X.K X.mg X.base (L2.CX X.prog X.w) k fa fd ps (spC X.K cv (C.call g))
section
variable {X : L2.Cx} {cv : String → Value} {W : WX} {C : Lg.Cx}
theorem _root_.L2.PE.to {e : Expr} {t t' : TE} (h : PE X e t) (i : ∀ σ H Q, t' σ H Q → t σ H Q) : PE X e t' := ⟨fun pins s σ H Q I q => h.run pins s σ H Q I (i _ _ _ q)⟩
theorem _root_.L2.PT.to {e : Expr} {t t' : TT} (h : PT X e t) (i : ∀ σ H Q, t' σ H Q → t σ H Q) : PT X e t' := ⟨fun pins s σ H Q I q => h.run pins s σ H Q I (i _ _ _ q)⟩
theorem _root_.L2.PA.to {e : List Expr} {t t' : TA} (h : PA X e t) (i : ∀ σ H Q, t' σ H Q → t σ H Q) : PA X e t' := ⟨fun pos pins s σ H Q I q => h.run pos pins s σ H Q I (i _ _ _ q)⟩
theorem _root_.L2.PO.to {e : Option Expr} {t t' : TO} (h : PO X e t) (i : ∀ σ H Q, t' σ H Q → t σ H Q) : PO X e t' := ⟨fun pins s σ H Q I q => h.run pins s σ H Q I (i _ _ _ q)⟩
theorem _root_.L2.PG.to {e : Expr} {t t' : TG} (h : PG X e t) (i : ∀ v σ H Q, t' v σ H Q → t v σ H Q) : PG X e t' := ⟨fun pins s σ H v u Q I r q => h.run pins s σ H v u Q I r (i _ _ _ _ q)⟩
theorem _root_.L2.PGs.to {e : List Expr} {t t' : TGs} (h : PGs X e t) (i : ∀ v σ H Q, t' v σ H Q → t v σ H Q) : PGs X e t' := ⟨fun pins s σ H v u Q I r q => h.run pins s σ H v u Q I r (i _ _ _ _ q)⟩
theorem _root_.L2.PI.to {tg e : Expr} {t t' : TI} (h : PI X tg e t) (i : ∀ σ H R, t' σ H R → t σ H R) : PI X tg e t' := ⟨fun pins s σ H R I q => h.run pins s σ H R I (i _ _ _ q)⟩
theorem _root_.L2.PTs.to {e : List Expr} {t t' : TT} (h : PTs X e t) (i : ∀ σ H Q, t' σ H Q → t σ H Q) : PTs X e t' := ⟨fun pins s σ H Q I q => h.run pins s σ H Q I (i _ _ _ q)⟩
theorem _root_.L2.PS.to {e : Stmt} {t t' : TS} (h : PS X e t) (i : ∀ D σ H, t' D σ H → t D σ H) : PS X e t' := ⟨fun pins s σ H D I q => h.run pins s σ H D I (i _ _ _ q)⟩
theorem _root_.L2.PSs.to {e : List Stmt} {t t' : TS} (h : PSs X e t) (i : ∀ D σ H, t' D σ H → t D σ H) : PSs X e t' := ⟨fun pins s σ H D I q => h.run pins s σ H D I (i _ _ _ q)⟩
/-- a part's reading, and what follows it -/
theorem tE.fst {e : Lg.E} {σ : L2.St} {H : Hp} {env : Lg.Env} {st : Lg.Store} {φ : Ph} {α : Type} {f : Lg.D → Lg.Store → Lg.Out α} {k : α → Lg.Store → Ph → Hp → Prop} {Q : VK} (re : REnv X.K φ H σ env) (rs : RepSt X.K φ H st)
    (q : Pst X.K cv W σ φ H ((Lg.ev C e env st).bind f) k) (n : ∀ x d st1 φ1 H1, Grow φ H φ1 H1 → REnv X.K φ1 H1 σ env → RepSt X.K φ1 H1 st1 → Rep X.K φ1 H1 x d → Pst X.K cv W σ φ1 H1 (f d st1) k → Q x H1) : tE X.K cv W C e σ H Q :=
  ⟨env, st, φ, re, rs, q.bind.imp fun d st1 φ1 H1 g rs1 h x rx => n x d st1 φ1 H1 g (re.grow g) rs1 rx h⟩
theorem tA.fst {e : Lg.Es} {σ : L2.St} {H : Hp} {env : Lg.Env} {st : Lg.Store} {φ : Ph} {α : Type} {f : List Lg.D → Lg.Store → Lg.Out α} {k : α → Lg.Store → Ph → Hp → Prop} {Q : List V → Hp → Prop} (re : REnv X.K φ H σ env) (rs : RepSt X.K φ H st)
    (q : Pst X.K cv W σ φ H ((Lg.evs C e env st).bind f) k) (n : ∀ x d st1 φ1 H1, Grow φ H φ1 H1 → REnv X.K φ1 H1 σ env → RepSt X.K φ1 H1 st1 → Reps X.K φ1 H1 x d → Pst X.K cv W σ φ1 H1 (f d st1) k → Q x H1) : tA X.K cv W C e σ H Q :=
  ⟨env, st, φ, re, rs, q.bind.imp fun d st1 φ1 H1 g rs1 h x rx => n x d st1 φ1 H1 g (re.grow g) rs1 rx h⟩
theorem tT.fst {e : Lg.E} {σ : L2.St} {H : Hp} {env : Lg.Env} {st : Lg.Store} {φ : Ph} {α : Type} {f : Bool → Lg.Store → Lg.Out α} {k : α → Lg.Store → Ph → Hp → Prop} {Q : Bool → Hp → Prop} (re : REnv X.K φ H σ env) (rs : RepSt X.K φ H st)
    (q : Pst X.K cv W σ φ H ((Lg.evt C e env st).bind f) k) (n : ∀ d st1 φ1 H1, Grow φ H φ1 H1 → REnv X.K φ1 H1 σ env → RepSt X.K φ1 H1 st1 → Pst X.K cv W σ φ1 H1 (f d st1) k → Q d H1) : tT X.K cv W C e σ H Q :=
  ⟨env, st, φ, re, rs, q.bind.imp fun d st1 φ1 H1 g rs1 h => n d st1 φ1 H1 g (re.grow g) rs1 h⟩
/-! ### expressions -/
variable {a b c : Lg.E} {l r s : Expr} {pos : Pos}
theorem sn_non {j : Nat} : PE X (.Constant .none j pos) (tE X.K cv W C .non) := pe_non.to fun σ H Q ⟨env, st, φ, re, rs, q⟩ => q.here rs _ .non
theorem sn_bl {x : Bool} {j : Nat} : PE X (.Constant (.bool x) j pos) (tE X.K cv W C (.bl x)) := pe_bl.to fun σ H Q ⟨env, st, φ, re, rs, q⟩ => q.here rs _ (.bl _)
theorem sn_int {x : Int} {j : Nat} : PE X (.Constant (.int x) j pos) (tE X.K cv W C (.int x)) := pe_int.to fun σ H Q ⟨env, st, φ, re, rs, q⟩ => q.here rs _ (.int _)
theorem sn_str {x : String} {j : Nat} : PE X (.Constant (.str (Str.ofString x)) j pos) (tE X.K cv W C (.str x)) := pe_str.to fun σ H Q ⟨env, st, φ, re, rs, q⟩ => q.here rs _ (.str _)
theorem sn_var {i : Nat} {x : Str} (hN : X.N[i]? = some x) (hv : Vis X.env.scope x) (h1 : (x == ("__debug__" : Str)) = false) (h2 : (x == ("__classdict__" : Str)) = false) : PE X (.Name x pos) (tE X.K cv W C (.var i)) :=
  (pe_var hN hv h1 h2).to fun σ H Q ⟨env, st, φ, re, rs, q⟩ => by
    simp only [Lg.ev] at q
    split at q
    · rename_i d e
      obtain ⟨v, h1, h2⟩ := re.at_ i d e
      exact ⟨v, h1, q.here rs _ h2⟩
    · exact q.elim
theorem sn_glob {x : String} (hg : Gl X (Str.ofString x)) (h1 : (Str.ofString x == ("__debug__" : Str)) = false) (h : ∀ d, C.gl x = some d → ∃ u v, X.mg (Str.ofString x) = some u ∧ RelV v u ∧ ∀ φ H, Rep X.K φ H v d) : PE X (.Name (Str.ofString x) pos) (tE X.K cv W C (.glob x)) := by
  cases e : C.gl x with
  | none => exact ⟨fun pins s σ H Q I ⟨env, st, φ, re, rs, q⟩ => by simp only [Lg.ev, e] at q; exact q.elim⟩
  | some d =>
    obtain ⟨u, v, hm, r, rep⟩ := h d e
    refine (pe_glob hg hm r h1).to fun σ H Q ⟨env, st, φ, re, rs, q⟩ => ?_
    simp only [Lg.ev, e] at q
    exact q.here rs _ (rep _ _)
theorem sn_con {x : Str} {d : Lg.D} (hg : Gl X x) (h1 : (x == ("__debug__" : Str)) = false) (h : ∃ u v, X.mg x = some u ∧ RelV v u ∧ ∀ φ H, Rep X.K φ H v d) : PE X (.Name x pos) (tE X.K cv W C (.con d)) := by
  obtain ⟨u, v, hm, r, rep⟩ := h
  refine (pe_glob hg hm r h1).to fun σ H Q ⟨env, st, φ, re, rs, q⟩ => ?_
  simp only [Lg.ev] at q
  exact q.here rs _ (rep _ _)
theorem sn_bin (op : Lg.Bop) (ha : PE X l (tE X.K cv W C a)) (hb : PE X r (tE X.K cv W C b)) : PE X (.BinOp l (opB op) r pos) (tE X.K cv W C (.bin op a b)) :=
  (pe_op (bop_rule op) ha hb).to fun σ H Q ⟨env, st, φ, re, rs, q⟩ => by
    simp only [Lg.ev] at q
    exact tE.fst re rs q fun x dx st1 φ1 H1 g1 re1 rs1 rx q1 => tE.fst re1 rs1 q1 fun y dy st2 φ2 H2 g2 re2 rs2 ry q2 => bop_read rs2 op (rx.grow g2) ry q2
theorem sn_lrep (ha : PE X l (tE X.K cv W C a)) (hb : PE X r (tE X.K cv W C b)) : PE X (.BinOp l (opB .mul) r pos) (tE X.K cv W C (.lrep a b)) :=
  (pe_op (bop_rule .mul) ha hb).to fun σ H Q ⟨env, st, φ, re, rs, q⟩ => by
    simp only [Lg.ev] at q
    exact tE.fst re rs q fun x dx st1 φ1 H1 g1 re1 rs1 rx q1 => tE.fst re1 rs1 q1 fun y dy st2 φ2 H2 g2 re2 rs2 ry q2 => mrep_read rs2 (rx.grow g2) ry q2
theorem sn_ladd (ha : PE X l (tE X.K cv W C a)) (hb : PE X r (tE X.K cv W C b)) : PE X (.BinOp l (opB .add) r pos) (tE X.K cv W C (.ladd a b)) :=
  (pe_op (bop_rule .add) ha hb).to fun σ H Q ⟨env, st, φ, re, rs, q⟩ => by
    simp only [Lg.ev] at q
    exact tE.fst re rs q fun x dx st1 φ1 H1 g1 re1 rs1 rx q1 => tE.fst re1 rs1 q1 fun y dy st2 φ2 H2 g2 re2 rs2 ry q2 => madd_read rs2 (rx.grow g2) ry q2
theorem sn_neg (ha : PE X l (tE X.K cv W C a)) : PE X (.UnaryOp .USub l pos) (tE X.K cv W C (.neg a)) :=
  (pe_un un_neg ha).to fun σ H Q ⟨env, st, φ, re, rs, q⟩ => by
    simp only [Lg.ev] at q
    refine tE.fst re rs q fun x dx st1 φ1 H1 g1 re1 rs1 rx q1 => ?_
    cases rx <;> first
      | exact q1.elim
      | exact ⟨_, rfl, q1.here rs1 _ (.int _)⟩
theorem sn_cmp (hu : X.A.units + 65 < cLine) (op : Lg.Cop) (hs : noSet r = true) (ha : PE X l (tE X.K cv W C a)) (hb : PE X r (tE X.K cv W C b)) : PE X (.Compare l [opC op] [r] pos) (tE X.K cv W C (.cmp op a b)) :=
  (pe_cmpR (cop_rule hu op) ha hb (by cases r <;> first | rfl | cases hs)).to fun σ H Q ⟨env, st, φ, re, rs, q⟩ => by
    simp only [Lg.ev] at q
    exact tE.fst re rs q fun x dx st1 φ1 H1 g1 re1 rs1 rx q1 => tE.fst re1 rs1 q1 fun y dy st2 φ2 H2 g2 re2 rs2 ry q2 => cop_read rs2 op (rx.grow g2) ry q2
theorem bind_assoc {α β γ : Type} (r : Lg.Out α) (f : α → Lg.Store → Lg.Out β) (g : β → Lg.Store → Lg.Out γ) : (r.bind f).bind g = r.bind fun a st => (f a st).bind g := by
  cases r <;> rfl
/-- a value's truth -/
def trD (d : Lg.D) (st : Lg.Store) : Lg.Out Bool := match Lg.truth st d with
  | some b => .ok b st
  | none => .bad
theorem evt_eq (e : Lg.E) (env : Lg.Env) (st : Lg.Store) : Lg.evt C e env st = (Lg.ev C e env st).bind trD := rfl
theorem trD_some' {d : Lg.D} {st : Lg.Store} {K : PySem.W.Frag} {σ : L2.St} {φ : Ph} {H : Hp} {k : Bool → Lg.Store → Ph → Hp → Prop} (rs : RepSt K φ H st) (q : Pst K cv W σ φ H (trD d st) k) : ∃ b, Lg.truth st d = some b ∧ k b st φ H := by
  unfold trD at q
  split at q
  · rename_i b e; exact ⟨b, e, q.here rs⟩
  · exact q.elim
theorem st_cmp (hu : X.A.units + 65 < cLine) (op : Lg.Cop) (hs : noSet r = true) (ha : PE X l (tE X.K cv W C a)) (hb : PE X r (tE X.K cv W C b)) : PT X (.Compare l [opC op] [r] pos) (tT X.K cv W C (.cmp op a b)) :=
  (pt_cmpR (cop_rule hu op) ha hb (by cases r <;> first | rfl | cases hs)).to fun σ H Q ⟨env, st, φ, re, rs, q⟩ => by
    rw [evt_eq] at q
    simp only [Lg.ev, bind_assoc] at q
    refine tE.fst re rs q fun x dx st1 φ1 H1 g1 re1 rs1 rx q1 => tE.fst re1 rs1 q1 fun y dy st2 φ2 H2 g2 re2 rs2 ry q2 => ?_
    rcases cop_bl (st := st2) op dx dy with ⟨b, e⟩ | e
    · rw [e] at q2
      refine cop_read (cv := cv) (W := W) (σ := σ) rs2 op (rx.grow g2) ry ?_
      rw [e]
      intro φ' H' g' rs' v rv
      cases rv
      exact ⟨b, rfl, q2 φ' H' g' rs'⟩
    · rw [e] at q2; exact q2.elim
theorem lastSet {o o' : CmpOp} (hs : noSet s = true) : lastMarks [o, o'] [r, s] = false := by
  cases s <;> first | rfl | cases hs
theorem chain_read (hu : X.A.units + 65 < cLine) (p q' : Lg.Cop) {σ : L2.St} {H : Hp} {Q : VK} {env : Lg.Env} {st : Lg.Store} {φ : Ph} (re : REnv X.K φ H σ env) (rs : RepSt X.K φ H st)
    (q : Pst X.K cv W σ φ H (Lg.ev C (.chain p q' a b c) env st) (kQ X.K Q)) : tChain (rC X.K p) (rC X.K q') (tE X.K cv W C a) (tE X.K cv W C b) (tE X.K cv W C c) σ H Q := by
  simp only [Lg.ev] at q
  refine tE.fst re rs q fun x dx st1 φ1 H1 g1 re1 rs1 rx q1 => tE.fst re1 rs1 q1 fun y dy st2 φ2 H2 g2 re2 rs2 ry q2 => ?_
  rcases cop_bl (st := st2) p dx dy with ⟨t, e⟩ | e
  · rw [e] at q2
    refine cop_read (cv := cv) (W := W) (σ := σ) rs2 p (rx.grow g2) ry ?_
    rw [e]
    intro φ' H' g' rs' v rv
    cases rv
    refine ⟨t, rfl, ?_⟩
    have q3 := Pst.grow (show Pst X.K cv W σ φ2 H2 _ _ from q2) g'
    cases t with
    | true =>
      rw [if_pos rfl]
      exact tE.fst (re2.grow g') rs' q3 fun z dz st4 φ4 H4 g4 re4 rs4 rz q4 => cop_read rs4 q' ((ry.grow (Grow.h g')).grow (Grow.h g4)) rz q4
    | false =>
      rw [if_neg Bool.false_ne_true]
      exact q3.here rs' _ (.bl _)
  · rw [e] at q2; exact q2.elim
theorem sn_chain (hu : X.A.units + 65 < cLine) (p q' : Lg.Cop) (hs : noSet s = true) (ha : PE X l (tE X.K cv W C a)) (hb : PE X r (tE X.K cv W C b)) (hc : PE X s (tE X.K cv W C c)) : PE X (.Compare l [opC p, opC q'] [r, s] pos) (tE X.K cv W C (.chain p q' a b c)) :=
  (pe_chain (cop_rule hu p) (cop_rule hu q') ha hb hc (lastSet hs)).to fun σ H Q ⟨env, st, φ, re, rs, q⟩ => chain_read hu p q' re rs q
/-- a chain gives a truth value -/
theorem chain_bl (p q' : Lg.Cop) {env : Lg.Env} {st : Lg.Store} {d : Lg.D} {st' : Lg.Store} (h : Lg.ev C (.chain p q' a b c) env st = .ok d st') : ∃ t, d = .bl t := by
  simp only [Lg.ev] at h
  cases e1 : Lg.ev C a env st with
  | ok x st1 =>
    rw [e1] at h; simp only [Lg.bind_ok] at h
    cases e2 : Lg.ev C b env st1 with
    | ok y st2 =>
      rw [e2] at h; simp only [Lg.bind_ok] at h
      rcases cop_bl (st := st2) p x y with ⟨t, e⟩ | e
      · rw [e] at h; simp only [Lg.bind_ok] at h
        cases t with
        | true =>
          simp only at h
          cases e3 : Lg.ev C c env st2 with
          | ok z st3 =>
            rw [e3] at h; simp only [Lg.bind_ok] at h
            rcases cop_bl (st := st3) q' y z with ⟨t, e⟩ | e
            · rw [e] at h; cases h; exact ⟨t, rfl⟩
            · rw [e] at h; cases h
          | exc _ _ => rw [e3] at h; cases h
          | bad => rw [e3] at h; cases h
        | false => cases h; exact ⟨_, rfl⟩
      · rw [e] at h; cases h
    | exc _ _ => rw [e2] at h; cases h
    | bad => rw [e2] at h; cases h
  | exc _ _ => rw [e1] at h; cases h
  | bad => rw [e1] at h; cases h
theorem st_chain (hu : X.A.units + 65 < cLine) (p q' : Lg.Cop) (hs : noSet s = true) (ha : PE X l (tE X.K cv W C a)) (hb : PE X r (tE X.K cv W C b)) (hc : PE X s (tE X.K cv W C c)) : PT X (.Compare l [opC p, opC q'] [r, s] pos) (tT X.K cv W C (.chain p q' a b c)) :=
  (pt_chain (cop_rule hu p) (cop_rule hu q') ha hb hc (lastSet hs)).to fun σ H Q ⟨env, st, φ, re, rs, q⟩ => by
    rw [evt_eq] at q
    refine chain_read hu p q' (env := env) (st := st) (φ := φ) re rs ?_
    cases e : Lg.ev C (.chain p q' a b c) env st with
    | ok d st' =>
      obtain ⟨t, rfl⟩ := chain_bl p q' e
      rw [e] at q
      intro φ' H' g' rs' v rv
      cases rv
      exact ⟨t, rfl, q φ' H' g' rs'⟩
    | exc _ _ => rw [e] at q; exact q
    | bad => rw [e] at q; exact q
/-! ### three comparisons in a row -/
def tChain3 (r1 r2 r3 : R2) (ta tb tc td : TE) : TE := fun σ H Q => ta σ H fun x H1 => tb σ H1 fun y H2 => r1 x y H2 fun z H3 => ∃ k, z = .bl k ∧
  (if k = true then tc σ H3 fun w H4 => r2 y w H4 fun z' H5 => ∃ k', z' = .bl k' ∧ (if k' = true then td σ H5 fun w2 H6 => r3 w w2 H6 Q else Q (.bl false) H5) else Q (.bl false) H3)
theorem pe_chain3 {X : L2.Cx} {o1 o2 o3 : CmpOp} {r1 r2 r3 : R2} {ae be ce de : Expr} {ta tb tc td : TE} (h1 : OpR X (compareOp o1) r1) (h2 : OpR X (compareOp o2) r2) (h3 : OpR X (compareOp o3) r3) (ha : PE X ae ta) (hb : PE X be tb) (hc : PE X ce tc) (hd : PE X de td)
    (hm : lastMarks [o1, o2, o3] [be, ce, de] = false) : PE X (.Compare ae [o1, o2, o3] [be, ce, de] pos) (tChain3 r1 r2 r3 ta tb tc td) := by
  refine ⟨fun pins s σ H Q I h => ?_⟩
  refine Compare_chain (thn (ha.run pins s σ H _ I h) fun v s1 ⟨x, H1, I1, e1, q1⟩ => chain_link (thn (hb.run pins s1 σ H1 _ I1 q1) fun u s2 ⟨y, H2, I2, e2, q2⟩ =>
    thn (h1 pins s2 σ H2 x y v u _ I2 e1 e2 q2) fun d s3 ⟨z, H3, I3, e3, k, e, q3⟩ => ?_)) hm
  subst e
  cases e3
  refine wpAny_truthy_bool ?_
  cases k with
  | false => exact ite_ff ⟨.bl false, H3, I3, rfl, q3⟩
  | true =>
    refine ite_tt (chain_link (thn (hc.run pins s3 σ H3 _ I3 q3) fun v4 s4 ⟨z', H4, I4, e4, q4⟩ => thn (h2 pins s4 σ H4 y z' u v4 _ I4 e2 e4 q4) fun d5 s5 ⟨z5, H5, I5, e5, k5, f5, q5⟩ => ?_))
    subst f5
    cases e5
    refine wpAny_truthy_bool ?_
    cases k5 with
    | false => exact ite_ff ⟨.bl false, H5, I5, rfl, q5⟩
    | true => exact ite_tt (chain_last (thn (hd.run pins s5 σ H5 _ I5 q5) fun v6 s6 ⟨z6, H6, I6, e6, q6⟩ => h3 pins s6 σ H6 z' z6 v4 v6 Q I6 e4 e6 q6))
theorem pt_chain3 {X : L2.Cx} {o1 o2 o3 : CmpOp} {r1 r2 r3 : R2} {ae be ce de : Expr} {ta tb tc td : TE} (h1 : OpR X (compareOp o1) r1) (h2 : OpR X (compareOp o2) r2) (h3 : OpR X (compareOp o3) r3) (ha : PE X ae ta) (hb : PE X be tb) (hc : PE X ce tc) (hd : PE X de td)
    (hm : lastMarks [o1, o2, o3] [be, ce, de] = false) : PT X (.Compare ae [o1, o2, o3] [be, ce, de] pos) (tTest (tChain3 r1 r2 r3 ta tb tc td)) := by
  refine ⟨fun pins s σ H Q I h => ?_⟩
  refine isTrue_chain (thn (ha.run pins s σ H _ I h) fun v s1 ⟨x, H1, I1, e1, q1⟩ => test_link (thn (hb.run pins s1 σ H1 _ I1 q1) fun u s2 ⟨y, H2, I2, e2, q2⟩ =>
    thn (h1 pins s2 σ H2 x y v u _ I2 e1 e2 q2) fun d s3 ⟨z, H3, I3, e3, k, e, q3⟩ => ?_)) hm
  subst e
  cases e3
  refine wpAny_truthy_bool ?_
  cases k with
  | false =>
    obtain ⟨k', e', q'⟩ := q3
    cases e'
    exact ite_ff ⟨H3, I3, q'⟩
  | true =>
    refine ite_tt (test_link (thn (hc.run pins s3 σ H3 _ I3 q3) fun v4 s4 ⟨z', H4, I4, e4, q4⟩ => thn (h2 pins s4 σ H4 y z' u v4 _ I4 e2 e4 q4) fun d5 s5 ⟨z5, H5, I5, e5, k5, f5, q5⟩ => ?_))
    subst f5
    cases e5
    refine wpAny_truthy_bool ?_
    cases k5 with
    | false =>
      obtain ⟨k', e', q'⟩ := q5
      cases e'
      exact ite_ff ⟨H5, I5, q'⟩
    | true =>
      refine ite_tt (test_last (thn (hd.run pins s5 σ H5 _ I5 q5) fun v6 s6 ⟨z6, H6, I6, e6, q6⟩ => thn (h3 pins s6 σ H6 z' z6 v4 v6 _ I6 e4 e6 q6) fun d7 s7 ⟨z7, H7, I7, e7, k7, f7, q7⟩ => ?_))
      subst f7
      cases e7
      exact wpAny_truthy_bool ⟨H7, I7, q7⟩
theorem chain3_bl (p q' r' : Lg.Cop) {env : Lg.Env} {st : Lg.Store} {e' : Lg.E} {d : Lg.D} {st' : Lg.Store} (h : Lg.ev C (.chain3 p q' r' a b c e') env st = .ok d st') : ∃ t, d = .bl t := by
  simp only [Lg.ev] at h
  cases e1 : Lg.ev C a env st with
  | ok x st1 =>
    rw [e1] at h; simp only [Lg.bind_ok] at h
    cases e2 : Lg.ev C b env st1 with
    | ok y st2 =>
      rw [e2] at h; simp only [Lg.bind_ok] at h
      rcases cop_bl (st := st2) p x y with ⟨t, e⟩ | e
      · rw [e] at h; simp only [Lg.bind_ok] at h
        cases t with
        | true =>
          simp only at h
          cases e3 : Lg.ev C c env st2 with
          | ok z st3 =>
            rw [e3] at h; simp only [Lg.bind_ok] at h
            rcases cop_bl (st := st3) q' y z with ⟨t, e⟩ | e
            · rw [e] at h; simp only [Lg.bind_ok] at h
              cases t with
              | true =>
                simp only at h
                cases e4 : Lg.ev C e' env st3 with
                | ok w st4 =>
                  rw [e4] at h; simp only [Lg.bind_ok] at h
                  rcases cop_bl (st := st4) r' z w with ⟨t, e⟩ | e
                  · rw [e] at h; cases h; exact ⟨t, rfl⟩
                  · rw [e] at h; cases h
                | exc _ _ => rw [e4] at h; cases h
                | bad => rw [e4] at h; cases h
              | false => cases h; exact ⟨_, rfl⟩
            · rw [e] at h; cases h
          | exc _ _ => rw [e3] at h; cases h
          | bad => rw [e3] at h; cases h
        | false => cases h; exact ⟨_, rfl⟩
      · rw [e] at h; cases h
    | exc _ _ => rw [e2] at h; cases h
    | bad => rw [e2] at h; cases h
  | exc _ _ => rw [e1] at h; cases h
  | bad => rw [e1] at h; cases h
theorem chain3_read (hu : X.A.units + 65 < cLine) (p q' r' : Lg.Cop) {e' : Lg.E} {σ : L2.St} {H : Hp} {Q : VK} {env : Lg.Env} {st : Lg.Store} {φ : Ph} (re : REnv X.K φ H σ env) (rs : RepSt X.K φ H st)
    (q : Pst X.K cv W σ φ H (Lg.ev C (.chain3 p q' r' a b c e') env st) (kQ X.K Q)) : tChain3 (rC X.K p) (rC X.K q') (rC X.K r') (tE X.K cv W C a) (tE X.K cv W C b) (tE X.K cv W C c) (tE X.K cv W C e') σ H Q := by
  simp only [Lg.ev] at q
  refine tE.fst re rs q fun x dx st1 φ1 H1 g1 re1 rs1 rx q1 => tE.fst re1 rs1 q1 fun y dy st2 φ2 H2 g2 re2 rs2 ry q2 => ?_
  rcases cop_bl (st := st2) p dx dy with ⟨t, e⟩ | e
  · rw [e] at q2
    refine cop_read (cv := cv) (W := W) (σ := σ) rs2 p (rx.grow g2) ry ?_
    rw [e]
    intro φ' H' g' rs' v rv
    cases rv
    refine ⟨t, rfl, ?_⟩
    have q3 := Pst.grow (show Pst X.K cv W σ φ2 H2 _ _ from q2) g'
    cases t with
    | true =>
      rw [if_pos rfl]
      refine tE.fst (re2.grow g') rs' q3 fun z dz st4 φ4 H4 g4 re4 rs4 rz q4 => ?_
      rcases cop_bl (st := st4) q' dy dz with ⟨t, e⟩ | e
      · rw [e] at q4
        refine cop_read (cv := cv) (W := W) (σ := σ) rs4 q' ((ry.grow (Grow.h g')).grow (Grow.h g4)) rz ?_
        rw [e]
        intro φ5 H5 g5 rs5 v5 rv5
        cases rv5
        refine ⟨t, rfl, ?_⟩
        have q5 := Pst.grow (show Pst X.K cv W σ φ4 H4 _ _ from q4) g5
        cases t with
        | true =>
          rw [if_pos rfl]
          exact tE.fst (re4.grow g5) rs5 q5 fun w dw st6 φ6 H6 g6 re6 rs6 rw6 q6 => cop_read rs6 r' ((rz.grow (Grow.h g5)).grow (Grow.h g6)) rw6 q6
        | false =>
          rw [if_neg Bool.false_ne_true]
          exact q5.here rs5 _ (.bl _)
      · rw [e] at q4; exact q4.elim
    | false =>
      rw [if_neg Bool.false_ne_true]
      exact q3.here rs' _ (.bl _)
  · rw [e] at q2; exact q2.elim
theorem lastSet3 {o o' o2 : CmpOp} {x y z : Expr} (hs : noSet z = true) : lastMarks [o, o', o2] [x, y, z] = false := by
  cases z <;> first | rfl | cases hs
theorem sn_chain3 (hu : X.A.units + 65 < cLine) (p q' r' : Lg.Cop) {e' : Lg.E} {z : Expr} (hs : noSet z = true) (ha : PE X l (tE X.K cv W C a)) (hb : PE X r (tE X.K cv W C b)) (hc : PE X s (tE X.K cv W C c)) (hd : PE X z (tE X.K cv W C e')) : PE X (.Compare l [opC p, opC q', opC r'] [r, s, z] pos) (tE X.K cv W C (.chain3 p q' r' a b c e')) :=
  (pe_chain3 (cop_rule hu p) (cop_rule hu q') (cop_rule hu r') ha hb hc hd (lastSet3 hs)).to fun σ H Q ⟨env, st, φ, re, rs, q⟩ => chain3_read hu p q' r' re rs q
theorem st_chain3 (hu : X.A.units + 65 < cLine) (p q' r' : Lg.Cop) {e' : Lg.E} {z : Expr} (hs : noSet z = true) (ha : PE X l (tE X.K cv W C a)) (hb : PE X r (tE X.K cv W C b)) (hc : PE X s (tE X.K cv W C c)) (hd : PE X z (tE X.K cv W C e')) : PT X (.Compare l [opC p, opC q', opC r'] [r, s, z] pos) (tT X.K cv W C (.chain3 p q' r' a b c e')) :=
  (pt_chain3 (cop_rule hu p) (cop_rule hu q') (cop_rule hu r') ha hb hc hd (lastSet3 hs)).to fun σ H Q ⟨env, st, φ, re, rs, q⟩ => by
    rw [evt_eq] at q
    refine chain3_read hu p q' r' (env := env) (st := st) (φ := φ) re rs ?_
    cases e : Lg.ev C (.chain3 p q' r' a b c e') env st with
    | ok d st' =>
      obtain ⟨t, rfl⟩ := chain3_bl p q' r' e
      rw [e] at q
      intro φ' H' g' rs' v rv
      cases rv
      exact ⟨t, rfl, q φ' H' g' rs'⟩
    | exc _ _ => rw [e] at q; exact q
    | bad => rw [e] at q; exact q
theorem sn_not (ha : PE X l (tE X.K cv W C a)) : PE X (.UnaryOp .Not l pos) (tE X.K cv W C (.not a)) :=
  (pe_notT ha).to fun σ H Q ⟨env, st, φ, re, rs, q⟩ => by
    simp only [Lg.ev] at q
    refine tE.fst re rs q fun x dx st1 φ1 H1 g1 re1 rs1 rx q1 => ?_
    split at q1
    · rename_i t e
      exact ⟨t, tru_read rs1 rx e, q1.here rs1 _ (.bl _)⟩
    · exact q1.elim
theorem st_not (ha : PT X l (tT X.K cv W C a)) : PT X (.UnaryOp .Not l pos) (tT X.K cv W C (.not a)) :=
  (pt_not ha).to fun σ H Q ⟨env, st, φ, re, rs, q⟩ => by
    rw [evt_eq] at q
    simp only [Lg.ev, bind_assoc] at q
    refine ⟨env, st, φ, re, rs, ?_⟩
    rw [evt_eq]
    refine Pst.imp (k := fun b st1 φ1 H1 => Q (!b) H1) ?_ fun _ _ _ _ _ _ h => h
    cases e : Lg.ev C a env st with
    | ok d st1 =>
      rw [e] at q
      simp only [Lg.bind_ok] at q ⊢
      unfold trD
      split at q
      · rename_i t e2
        first
          | (rw [e2]; exact q)
          | exact q
      · rename_i e2; exact q.elim
    | exc _ _ => rw [e] at q; exact q
    | bad => rw [e] at q; exact q
/-- any other test -/
theorem st_gen (hp : plainT l = true) (ha : PE X l (tE X.K cv W C a)) : PT X l (tT X.K cv W C a) :=
  (pt_truth ha (by
    intro whole
    cases l with
    | UnaryOp op x p => cases op <;> first | rfl | cases hp
    | BoolOp _ _ _ => cases hp
    | IfExp _ _ _ _ => cases hp
    | Compare _ _ _ _ => cases hp
    | _ => rfl)).to fun σ H Q ⟨env, st, φ, re, rs, q⟩ => by
    rw [evt_eq] at q
    refine tE.fst re rs q fun x dx st1 φ1 H1 g1 re1 rs1 rx q1 => ?_
    obtain ⟨t, e, h⟩ := trD_some' rs1 q1
    exact ⟨t, tru_read rs1 rx e, h⟩
theorem pe_tail {op : BoolOp} {y : Expr} {rest : List Expr} {t : TE} (h : PE X (tailB op y rest pos) t) : PE X (.BoolOp op (y :: rest) pos) t := by
  cases rest with
  | nil => exact pe_one h
  | cons z zs => exact h
theorem sn_and {y : Expr} {rest : List Expr} (ha : PE X l (tE X.K cv W C a)) (hb : PE X (tailB .And y rest pos) (tE X.K cv W C b)) : PE X (.BoolOp .And (l :: y :: rest) pos) (tE X.K cv W C (.and a b)) :=
  (pe_andT ha (pe_tail hb)).to fun σ H Q ⟨env, st, φ, re, rs, q⟩ => by
    simp only [Lg.ev] at q
    refine tE.fst re rs q fun x dx st1 φ1 H1 g1 re1 rs1 rx q1 => ?_
    split at q1
    · rename_i e; exact ⟨true, tru_read rs1 rx e, by rw [if_pos rfl]; exact ⟨env, st1, φ1, re1, rs1, q1⟩⟩
    · rename_i e; exact ⟨false, tru_read rs1 rx e, by rw [if_neg Bool.false_ne_true]; exact q1.here rs1 _ rx⟩
    · exact q1.elim
theorem sn_or {y : Expr} {rest : List Expr} (ha : PE X l (tE X.K cv W C a)) (hb : PE X (tailB .Or y rest pos) (tE X.K cv W C b)) : PE X (.BoolOp .Or (l :: y :: rest) pos) (tE X.K cv W C (.or a b)) :=
  (pe_orT ha (pe_tail hb)).to fun σ H Q ⟨env, st, φ, re, rs, q⟩ => by
    simp only [Lg.ev] at q
    refine tE.fst re rs q fun x dx st1 φ1 H1 g1 re1 rs1 rx q1 => ?_
    split at q1
    · rename_i e; exact ⟨true, tru_read rs1 rx e, by rw [if_pos rfl]; exact q1.here rs1 _ rx⟩
    · rename_i e; exact ⟨false, tru_read rs1 rx e, by rw [if_neg Bool.false_ne_true]; exact ⟨env, st1, φ1, re1, rs1, q1⟩⟩
    · exact q1.elim
/-- a test of and, or: a block of its own (PW) -/
theorem pw_tail {op : BoolOp} {y : Expr} {rest : List Expr} {t : TT} (h : PT X (tailB op y rest pos) t) : PW X (.BoolOp op (y :: rest) pos) t := by
  cases rest with
  | nil =>
    cases op with
    | And => exact pw_and1 h
    | Or => exact pw_or1 h
  | cons z zs => exact ⟨fun wh pins s σ H Q I hq => h.run pins s σ H Q I hq⟩
theorem st_and {y : Expr} {rest : List Expr} (ha : PT X l (tT X.K cv W C a)) (hb : PT X (tailB .And y rest pos) (tT X.K cv W C b)) : PT X (.BoolOp .And (l :: y :: rest) pos) (tT X.K cv W C (.and a b)) :=
  ((pw_and ha (pw_tail hb)).pt).to fun σ H Q ⟨env, st, φ, re, rs, q⟩ => by
    rw [evt_eq] at q
    simp only [Lg.ev, bind_assoc] at q
    refine ⟨env, st, φ, re, rs, ?_⟩
    rw [evt_eq]
    cases e : Lg.ev C a env st with
    | ok d st1 =>
      rw [e] at q
      simp only [Lg.bind_ok] at q ⊢
      unfold trD
      split at q
      · rename_i e2
        rw [e2]
        intro φ' H' g' rs'
        rw [if_pos rfl]
        exact ⟨env, st1, φ', re.grow g', rs', by rw [evt_eq]; exact Pst.grow q g'⟩
      · rename_i e2
        rw [e2]
        intro φ' H' g' rs'
        rw [if_neg Bool.false_ne_true]
        simp only [Lg.bind_ok, trD, e2] at q
        exact q φ' H' g' rs'
      · exact q.elim
    | exc _ _ => rw [e] at q; exact q
    | bad => rw [e] at q; exact q
theorem st_or {y : Expr} {rest : List Expr} (ha : PT X l (tT X.K cv W C a)) (hb : PT X (tailB .Or y rest pos) (tT X.K cv W C b)) : PT X (.BoolOp .Or (l :: y :: rest) pos) (tT X.K cv W C (.or a b)) :=
  ((pw_or ha (pw_tail hb)).pt).to fun σ H Q ⟨env, st, φ, re, rs, q⟩ => by
    rw [evt_eq] at q
    simp only [Lg.ev, bind_assoc] at q
    refine ⟨env, st, φ, re, rs, ?_⟩
    rw [evt_eq]
    cases e : Lg.ev C a env st with
    | ok d st1 =>
      rw [e] at q
      simp only [Lg.bind_ok] at q ⊢
      unfold trD
      split at q
      · rename_i e2
        rw [e2]
        intro φ' H' g' rs'
        rw [if_pos rfl]
        simp only [Lg.bind_ok, trD, e2] at q
        exact q φ' H' g' rs'
      · rename_i e2
        rw [e2]
        intro φ' H' g' rs'
        rw [if_neg Bool.false_ne_true]
        exact ⟨env, st1, φ', re.grow g', rs', by rw [evt_eq]; exact Pst.grow q g'⟩
      · exact q.elim
    | exc _ _ => rw [e] at q; exact q
    | bad => rw [e] at q; exact q
theorem sn_ite (hc : PT X l (tT X.K cv W C c)) (ha : PE X r (tE X.K cv W C a)) (hb : PE X s (tE X.K cv W C b)) : PE X (.IfExp l r s pos) (tE X.K cv W C (.ite c a b)) :=
  (pe_ifExp hc ha hb).to fun σ H Q ⟨env, st, φ, re, rs, q⟩ => by
    simp only [Lg.ev] at q
    refine ⟨env, st, φ, re, rs, ?_⟩
    rw [evt_eq]
    cases e : Lg.ev C c env st with
    | ok d st1 =>
      rw [e] at q
      simp only [Lg.bind_ok] at q ⊢
      unfold trD
      split at q
      · rename_i e2
        rw [e2]
        intro φ' H' g' rs'
        rw [if_pos rfl]
        exact ⟨env, st1, φ', re.grow g', rs', Pst.grow q g'⟩
      · rename_i e2
        rw [e2]
        intro φ' H' g' rs'
        rw [if_neg Bool.false_ne_true]
        exact ⟨env, st1, φ', re.grow g', rs', Pst.grow q g'⟩
      · exact q.elim
    | exc _ _ => rw [e] at q; exact q
    | bad => rw [e] at q; exact q
theorem pt_ifExp {tc ta tb : TT} (hc : PT X l tc) (ha : PT X r ta) (hb : PT X s tb) : PT X (.IfExp l r s pos) (fun σ H Q => tc σ H fun b H1 => if b = true then ta σ H1 Q else tb σ H1 Q) := by
  refine ⟨fun pins s0 σ H Q I h => ?_⟩
  show wpAny _ _ (do if ← isTrue l X.env (eval l X.env) then isTrue r X.env (eval r X.env) else isTrue s X.env (eval s X.env)) _ _ _
  refine wpAny_bind (thn (hc.run pins s0 σ H _ I h) fun b s1 ⟨H1, I1, q1⟩ => ?_)
  cases b with
  | true => exact ha.run pins s1 σ H1 Q I1 q1
  | false => exact hb.run pins s1 σ H1 Q I1 q1
theorem st_ite (hc : PT X l (tT X.K cv W C c)) (ha : PT X r (tT X.K cv W C a)) (hb : PT X s (tT X.K cv W C b)) : PT X (.IfExp l r s pos) (tT X.K cv W C (.ite c a b)) :=
  (pt_ifExp hc ha hb).to fun σ H Q ⟨env, st, φ, re, rs, q⟩ => by
    rw [evt_eq] at q
    simp only [Lg.ev, bind_assoc] at q
    refine ⟨env, st, φ, re, rs, ?_⟩
    rw [evt_eq]
    cases e : Lg.ev C c env st with
    | ok d st1 =>
      rw [e] at q
      simp only [Lg.bind_ok] at q ⊢
      unfold trD
      split at q
      · rename_i e2
        rw [e2]
        intro φ' H' g' rs'
        rw [if_pos rfl]
        exact ⟨env, st1, φ', re.grow g', rs', by rw [evt_eq]; exact Pst.grow q g'⟩
      · rename_i e2
        rw [e2]
        intro φ' H' g' rs'
        rw [if_neg Bool.false_ne_true]
        exact ⟨env, st1, φ', re.grow g', rs', by rw [evt_eq]; exact Pst.grow q g'⟩
      · exact q.elim
    | exc _ _ => rw [e] at q; exact q
    | bad => rw [e] at q; exact q
/-! ### arguments, calls -/
theorem sa_nil : PA X [] (tA X.K cv W C .nil) := pa_nil.to fun σ H Q ⟨env, st, φ, re, rs, q⟩ => q.here rs _ .nil
theorem sa_cons {as : Lg.Es} {es : List Expr} (hs : nstar l = true) (ha : PE X l (tE X.K cv W C a)) (hb : PA X es (tA X.K cv W C as)) : PA X (l :: es) (tA X.K cv W C (.cons a as)) :=
  (pa_cons ha hb (star_cons hs)).to fun σ H Q ⟨env, st, φ, re, rs, q⟩ => by
    simp only [Lg.evs] at q
    exact tE.fst re rs q fun x dx st1 φ1 H1 g1 re1 rs1 rx q1 => tA.fst re1 rs1 q1 fun ys dys st2 φ2 H2 g2 re2 rs2 rys q2 => q2.here rs2 _ (.cons (rx.grow g2) rys)
theorem Pst.wish {K : PySem.W.Frag} {W : WX} {σ : L2.St} {φ : Ph} {H : Hp} {α : Type} {r : Lg.Out α} {k : α → Lg.Store → Ph → Hp → Prop} (h : Pst K cv W σ φ H r k) : Pst K cv (fun cls d _ H' => W cls d σ H') [] φ H r k := by
  cases r <;> exact h
theorem pe_call0S {CX : CXT} {k : Nat} {f : Addr} {fd : FuncData} {ps : List Str} {sp : Sp} {E : L2.St → XK} {x : Str} {p : Pos} (F : FnOk X.prog X.w X.K X.mg X.base CX k f fd ps sp) (hr : Room k X.A) (hg : Gl X x) (hm : X.mg x = some (.ref f)) (hk : PySem.W.keepIn X.K (.ref f) = true) (hb : Binds X.K fd ps [])
    (hx : ∀ σ, PassesAt CX X σ (E σ)) (hdb : (x == ("__debug__" : Str)) = false) : PE X (.Call (.Name x p) [] [] pos) (tCallS sp E tNil) := by
  refine ⟨fun pins s σ H Q I h => ?_⟩
  refine wpAny_Call_Name_kw (ld_glob I hg hm ?_ hdb)
  exact PySem.W.callWith_K0 I.kIn hk (run_fnS (us := []) F hr hb (hx σ) I .nil h)
theorem sn_call {f : String} {as : Lg.Es} {e : Expr} {es : List Expr} {p : Pos} {fa : Addr} {fd : FuncData} {ps : List Str} {k : Nat} (tk : Takes X W) (hg : Gl X (Str.ofString f)) (hd : (Str.ofString f == ("__debug__" : Str)) = false) (hm : X.mg (Str.ofString f) = some (.ref fa)) (hk : PySem.W.keepIn X.K (.ref fa) = true) (hr : Room k X.A)
    (hb : Binds X.K fd ps []) (F : FnOk X.prog X.w X.K X.mg X.base (L2.CX X.prog X.w) k fa fd ps (spC X.K cv (C.call f))) (hs : (e :: es).all nstar = true) (ha : PA X (e :: es) (tA X.K cv W C as)) : PE X (.Call (.Name (Str.ofString f) p) (e :: es) [] pos) (tE X.K cv W C (.call f as)) := by
  rw [List.all_cons, Bool.and_eq_true] at hs
  refine (pe_callS F hr hg hm hk hb (fun σ => passAt tk σ) ha hd (star_cons hs.1) (star_any hs.2)).to fun σ H Q ⟨env, st, φ, re, rs, q⟩ => ?_
  simp only [Lg.ev] at q
  exact tA.fst re rs q fun xs ds st1 φ1 H1 g1 re1 rs1 rxs q1 => ⟨ds, st1, φ1, rxs, rs1, q1.wish⟩
theorem sn_call0 {f : String} {p : Pos} {fa : Addr} {fd : FuncData} {ps : List Str} {k : Nat} (tk : Takes X W) (hg : Gl X (Str.ofString f)) (hd : (Str.ofString f == ("__debug__" : Str)) = false) (hm : X.mg (Str.ofString f) = some (.ref fa)) (hk : PySem.W.keepIn X.K (.ref fa) = true) (hr : Room k X.A)
    (hb : Binds X.K fd ps []) (F : FnOk X.prog X.w X.K X.mg X.base (L2.CX X.prog X.w) k fa fd ps (spC X.K cv (C.call f))) : PE X (.Call (.Name (Str.ofString f) p) [] [] pos) (tE X.K cv W C (.call f .nil)) := by
  refine (pe_call0S F hr hg hm hk hb (fun σ => passAt tk σ) hd).to fun σ H Q ⟨env, st, φ, re, rs, q⟩ => ?_
  simp only [Lg.ev, Lg.evs, Lg.bind_ok] at q
  exact ⟨[], st, φ, .nil, rs, q.wish⟩
theorem _root_.So.Reps.rev {K : PySem.W.Frag} {φ : Ph} {H : Hp} : ∀ {vs : List V} {ds : List Lg.D}, Reps K φ H vs ds → Reps K φ H vs.reverse ds.reverse
  | _, _, .nil => .nil
  | _, _, .cons a r => by rw [List.reverse_cons, List.reverse_cons]; exact (Reps.rev r).append (.cons a .nil)
theorem sn_rev {k : Nat} {p1 p2 p3 : Pos} (ha : PE X l (tE X.K cv W C a)) : PE X (.Subscript l (.Slice none none (some (.UnaryOp .USub (.Constant (.int 1) k p1) p2)) p3) pos) (tE X.K cv W C (.rev a)) :=
  (pe_revA ha).to fun σ H Q ⟨env, st, φ, re, rs, q⟩ => by
    simp only [Lg.ev] at q
    refine tE.fst re rs q fun x dx st1 φ1 H1 g1 re1 rs1 rx q1 => ?_
    unfold Lg.revD at q1
    split at q1
    · cases rx with
      | tup h1 h2 => exact ⟨_, _, rfl, .inr ⟨h1.sq, new_tup rs1 h2.rev q1⟩⟩
    · split at q1
      · rename_i xs e
        obtain ⟨a, vs, g1, g2, g3⟩ := rs1.listOf rx e
        exact ⟨a, vs, g1, .inl ⟨g2, new_scr rs1 g3.rev q1⟩⟩
      · exact q1.elim
theorem sn_fnv {f : String} {pos : Pos} (hg : Gl X (Str.ofString f)) (hd : (Str.ofString f == ("__debug__" : Str)) = false) (hm : X.mg (Str.ofString f) = some (.ref (He.ga X.K (Str.ofString f)))) : PE X (.Name (Str.ofString f) pos) (tE X.K cv W C (.fnv f)) := by
  refine (pe_glob (v := .ref (He.ga X.K (Str.ofString f))) hg hm rfl hd).to fun σ H Q ⟨env, st, φ, re, rs, q⟩ => ?_
  simp only [Lg.ev] at q
  exact q.here rs _ (.fn f)
theorem sn_callv {i : Nat} {x : Str} {fs : List String} {as : Lg.Es} {e : Expr} {es : List Expr} {p pos : Pos} (tk : Takes X W) (hN : X.N[i]? = some x) (hv : Vis X.env.scope x) (h1 : (x == ("__debug__" : Str)) = false) (h2 : (x == ("__classdict__" : Str)) = false)
    (own : ∀ f ∈ fs, ∃ fd ps k, PySem.W.keepIn X.K (.ref (He.ga X.K (Str.ofString f))) = true ∧ Room k X.A ∧ Binds X.K fd ps [] ∧ FnOk X.prog X.w X.K X.mg X.base (L2.CX X.prog X.w) k (He.ga X.K (Str.ofString f)) fd ps (spC X.K cv (C.call f)))
    (hs : (e :: es).all nstar = true) (ha : PA X (e :: es) (tA X.K cv W C as)) : PE X (.Call (.Name x p) (e :: es) [] pos) (tE X.K cv W C (.callv i fs as)) := by
  rw [List.all_cons, Bool.and_eq_true] at hs
  refine ⟨fun pins s σ H Q I ⟨env, st, φ, re, rs, q⟩ => ?_⟩
  simp only [Lg.ev] at q
  split at q
  · rename_i f ef
    split at q
    · rename_i hf
      obtain ⟨v, hv', rv⟩ := re.at_ i _ ef
      cases rv
      obtain ⟨fd, ps, k, hk, hr, hb, F⟩ := own f (by simpa using hf)
      refine wpAny_Call_Name_kw (thn ((pe_var (pos := p) hN hv h1 h2).run pins s σ H (fun v H1 => v = .ref (He.ga X.K (Str.ofString f)) ∧ H1 = H) I ⟨_, hv', rfl, rfl⟩) fun u s1 ⟨v, H1, I1, r1, q1⟩ => ?_)
      obtain ⟨rfl, rfl⟩ := q1
      cases r1
      refine PySem.W.callWith_K (h₀ := X.base) I.ok.mod.kin hk (thn (ha.run pos pins s1 σ _ (fun vs H1 => spC X.K cv (C.call f) vs H1 Q (WE W σ)) I1 (tA.fst re rs q fun xs ds st1 φ1 H1 g1 re1 rs1 rxs q1 => ⟨ds, st1, φ1, rxs, rs1, q1.wish⟩)) fun us s2 ⟨vs, H2, I2, r, q2⟩ => ⟨I2.kIn, ?_⟩) (star_cons hs.1) (star_any hs.2)
      exact run_fnS F hr hb (passAt tk σ) I2 r q2
    · exact q.elim
  · exact q.elim
theorem sn_prim {as : Lg.Es} {e : Expr} {es : List Expr} {pp : Pos} (hc : X.calm = true) (p : Lg.Prim) (hg : Gl X (Str.ofString (pname p))) (hm : X.mg (Str.ofString (pname p)) = none) (hs : (e :: es).all nstar = true) (ha : PA X (e :: es) (tA X.K cv W C as)) :
    PE X (.Call (.Name (Str.ofString (pname p)) pp) (e :: es) [] pos) (tE X.K cv W C (.prim p as)) :=
  (prim_pe hc p hg hm ha hs).to fun σ H Q ⟨env, st, φ, re, rs, q⟩ => by
    simp only [Lg.ev] at q
    exact tA.fst re rs q fun xs ds st1 φ1 H1 g1 re1 rs1 rxs q1 => prim_read rs1 p rxs q1
theorem sn_isi {p p2 : Pos} (t : Lg.Ty) (hg : Gl X "isinstance") (hm : X.mg "isinstance" = none) (hg2 : Gl X (Str.ofString (tname t))) (hm2 : X.mg (Str.ofString (tname t)) = none) (hs : nstar l = true) (ha : PE X l (tE X.K cv W C a)) :
    PE X (.Call (.Name "isinstance" p) [l, .Name (Str.ofString (tname t)) p2] [] pos) (tE X.K cv W C (.isi t a)) := by
  have ht : PE X (.Name (Str.ofString (tname t)) p2) (tC (.ty (tname t))) := by
    cases t with
    | int => exact pe_bltn (u := .type "int") hg2 hm2 (by decide +kernel) rfl (by decide) (by decide)
    | bool => exact pe_bltn (u := .type "bool") hg2 hm2 (by decide +kernel) rfl (by decide) (by decide)
    | tuple => exact pe_bltn (u := .type "tuple") hg2 hm2 (by decide +kernel) rfl (by decide) (by decide)
    | str => exact pe_bltn (u := .type "str") hg2 hm2 (by decide +kernel) rfl (by decide) (by decide)
    | list => exact pe_bltn (u := .type "list") hg2 hm2 (by decide +kernel) rfl (by decide) (by decide)
  refine (pe_callB call_isi hg hm (by decide +kernel) (pa_cons ha (pa_cons ht pa_nil) (star_cons hs)) (by decide) (by decide) (star_cons hs) rfl).to fun σ H Q ⟨env, st, φ, re, rs, q⟩ => ?_
  simp only [Lg.ev] at q
  exact tE.fst re rs q fun x dx st1 φ1 H1 g1 re1 rs1 rx q1 => isi_read rs1 t rx q1
theorem pe_tyname (t : Lg.Ty) {p2 : Pos} (hg2 : Gl X (Str.ofString (tname t))) (hm2 : X.mg (Str.ofString (tname t)) = none) : PE X (.Name (Str.ofString (tname t)) p2) (tC (.ty (tname t))) := by
  cases t with
  | int => exact pe_bltn (u := .type "int") hg2 hm2 (by decide +kernel) rfl (by decide) (by decide)
  | bool => exact pe_bltn (u := .type "bool") hg2 hm2 (by decide +kernel) rfl (by decide) (by decide)
  | tuple => exact pe_bltn (u := .type "tuple") hg2 hm2 (by decide +kernel) rfl (by decide) (by decide)
  | str => exact pe_bltn (u := .type "str") hg2 hm2 (by decide +kernel) rfl (by decide) (by decide)
  | list => exact pe_bltn (u := .type "list") hg2 hm2 (by decide +kernel) rfl (by decide) (by decide)
theorem sn_isi2 {p p2 p3 p4 : Pos} {kk : Nat} (t u : Lg.Ty) (hg : Gl X "isinstance") (hm : X.mg "isinstance" = none) (hg2 : Gl X (Str.ofString (tname t))) (hm2 : X.mg (Str.ofString (tname t)) = none) (hg3 : Gl X (Str.ofString (tname u))) (hm3 : X.mg (Str.ofString (tname u)) = none) (hs : nstar l = true) (ha : PE X l (tE X.K cv W C a)) :
    PE X (.Call (.Name "isinstance" p) [l, .Tuple [.Name (Str.ofString (tname t)) p2, .Name (Str.ofString (tname u)) p3] kk p4] [] pos) (tE X.K cv W C (.isi2 t u a)) := by
  refine (pe_callB call_isiT hg hm (by decide +kernel) (pa_cons ha (pa_cons (pe_tup (pa_cons (pe_tyname t hg2 hm2) (pa_cons (pe_tyname u hg3 hm3) pa_nil))) pa_nil) (star_cons hs)) (by decide) (by decide) (star_cons hs) rfl).to fun σ H Q ⟨env, st, φ, re, rs, q⟩ => ?_
  simp only [Lg.ev] at q
  exact tE.fst re rs q fun x dx st1 φ1 H1 g1 re1 rs1 rx q1 => ⟨by show 2 ≤ PySem.sizeLine; decide, fun p hp => isi2_read rs1 t u rx q1 hp⟩
theorem sn_ix (hs : noSlice r = true) (ha : PE X l (tE X.K cv W C a)) (hb : PE X r (tE X.K cv W C b)) : PE X (.Subscript l r pos) (tE X.K cv W C (.ix a b)) :=
  (pe_ix ix_seq ha hb (fun o i => by cases r <;> first | rfl | cases hs)).to fun σ H Q ⟨env, st, φ, re, rs, q⟩ => by
    simp only [Lg.ev] at q
    exact tE.fst re rs q fun x dx st1 φ1 H1 g1 re1 rs1 rx q1 => tE.fst re1 rs1 q1 fun y dy st2 φ2 H2 g2 re2 rs2 ry q2 => ix_read rs2 (rx.grow g2) ry q2
theorem so_none : PO X none (tO X.K cv W C .none) := po_none.to fun σ H Q ⟨env, st, φ, re, rs, q⟩ => q.here rs
theorem so_some (ha : PE X l (tE X.K cv W C a)) : PO X (some l) (tO X.K cv W C (.some a)) := (po_some ha).to fun σ H Q ⟨env, st, φ, re, rs, q⟩ => by
  simp only [Lg.evo] at q
  refine tE.fst re rs q fun x dx st1 φ1 H1 g1 re1 rs1 rx q1 => ?_
  cases rx <;> first
    | exact q1.elim
    | exact ⟨_, rfl, q1.here rs1⟩
theorem tO.fst {e : Lg.Eo} {σ : L2.St} {H : Hp} {env : Lg.Env} {st : Lg.Store} {φ : Ph} {α : Type} {f : Option Int → Lg.Store → Lg.Out α} {k : α → Lg.Store → Ph → Hp → Prop} {Q : Option Int → Hp → Prop} (re : REnv X.K φ H σ env) (rs : RepSt X.K φ H st)
    (q : Pst X.K cv W σ φ H ((Lg.evo C e env st).bind f) k) (n : ∀ d st1 φ1 H1, Grow φ H φ1 H1 → REnv X.K φ1 H1 σ env → RepSt X.K φ1 H1 st1 → Pst X.K cv W σ φ1 H1 (f d st1) k → Q d H1) : tO X.K cv W C e σ H Q :=
  ⟨env, st, φ, re, rs, q.bind.imp fun d st1 φ1 H1 g rs1 h => n d st1 φ1 H1 g (re.grow g) rs1 h⟩
theorem sn_slice {lo hi : Lg.Eo} {l0 h0 : Option Expr} {p2 : Pos} (ha : PE X l (tE X.K cv W C a)) (hl : PO X l0 (tO X.K cv W C lo)) (hh : PO X h0 (tO X.K cv W C hi)) : PE X (.Subscript l (.Slice l0 h0 none p2) pos) (tE X.K cv W C (.slice a lo hi)) :=
  (pe_slice sl_rule ha hl hh).to fun σ H Q ⟨env, st, φ, re, rs, q⟩ => by
    simp only [Lg.ev] at q
    exact tE.fst re rs q fun x dx st1 φ1 H1 g1 re1 rs1 rx q1 => tO.fst re1 rs1 q1 fun lo' st2 φ2 H2 g2 re2 rs2 q2 => tO.fst re2 rs2 q2 fun hi' st3 φ3 H3 g3 re3 rs3 q3 =>
      sl_read rs3 ((rx.grow (Grow.h g2)).grow (Grow.h g3)) lo' hi' q3
theorem sn_tup {as : Lg.Es} {es : List Expr} {k : Nat} (ha : PA X es (tA X.K cv W C as)) : PE X (.Tuple es k pos) (tE X.K cv W C (.tup as)) :=
  (pe_tup ha).to fun σ H Q ⟨env, st, φ, re, rs, q⟩ => by
    simp only [Lg.ev] at q
    refine tA.fst re rs q fun xs ds st1 φ1 H1 g1 re1 rs1 rxs q1 => ?_
    split at q1
    · rename_i hz
      exact ⟨by rw [rxs.length, ← size_eq]; exact hz, new_tup rs1 rxs q1⟩
    · exact q1.elim
theorem sn_lst {m : Bool} {as : Lg.Es} {es : List Expr} (ha : PA X es (tA X.K cv W C as)) : PE X (.List es pos) (tE X.K cv W C (.lst m as)) :=
  (pe_lst ha).to fun σ H Q ⟨env, st, φ, re, rs, q⟩ => by
    simp only [Lg.ev] at q
    refine tA.fst re rs q fun xs ds st1 φ1 H1 g1 re1 rs1 rxs q1 => ?_
    split at q1
    · rename_i hz
      exact ⟨by rw [rxs.length, ← size_eq]; exact hz, new_list rs1 rxs q1⟩
    · exact q1.elim
theorem rng_reps {K : PySem.W.Frag} {φ : Ph} {H : Hp} : ∀ (n : Nat) (lo : Int), Reps K φ H ((List.range n).map fun i => V.int (lo + (i : Nat))) (Lg.rng lo n)
  | 0, _ => .nil
  | n + 1, lo => by
    rw [List.range_succ_eq_map, List.map_cons, List.map_map]
    have ih := rng_reps (K := K) (φ := φ) (H := H) n (lo + 1)
    have e : ((List.range n).map ((fun i => V.int (lo + (i : Nat))) ∘ Nat.succ)) = (List.range n).map fun i => V.int (lo + 1 + (i : Nat)) := by
      apply List.map_congr_left
      intro i _
      show V.int _ = V.int _
      congr 1
      simp only [Nat.succ_eq_add_one]
      omega
    rw [e]
    have z : lo + ((0 : Nat) : Int) = lo := by omega
    rw [z]
    exact .cons (.int lo) ih
theorem rngOk_ok {i j : Int} (h : Lg.rngOk i j = true) : RgOk i j := by
  unfold Lg.rngOk at h
  have h := Lg.chk_iff.mp h
  obtain ⟨h1, h2, h3, h4, h5⟩ := h
  exact ⟨h1, h2, h3, h4, by have e : (2 : Nat) ^ 24 = 16777216 := by decide
                            omega⟩
def pairI (x y : Lg.D) (st : Lg.Store) : Lg.Out (Int × Int) := match x, y with
  | .int i, .int j => .ok (i, j) st
  | _, _ => .bad
/-- list(range(..)) -/
theorem sn_lrange {m : Bool} {p p2 p3 : Pos} {as : List Expr} {te : L2.St → Hp → (Int → Int → Hp → Prop) → Prop} (hc : X.calm = true) (hg : Gl X "list") (hm : X.mg "list" = none) (he : PRg X (.Call (.Name "range" p2) as [] p3) te)
    (hr : ∀ σ H Q env st φ, REnv X.K φ H σ env → RepSt X.K φ H st → Pst X.K cv W σ φ H ((Lg.ev C a env st).bind fun x st1 => (Lg.ev C b env st1).bind fun y st2 => pairI x y st2) (fun d st' φ' H' => Q d.1 d.2 H') → te σ H Q) :
    PE X (.Call (.Name "list" p) [.Call (.Name "range" p2) as [] p3] [] pos) (tE X.K cv W C (.lrange m a b)) :=
  (pe_listRg hc hg hm he).to fun σ H Q ⟨env, st, φ, re, rs, q⟩ => by
    simp only [Lg.ev] at q
    refine hr σ H _ env st φ re rs ?_
    cases e1 : Lg.ev C a env st with
    | ok x st1 =>
      rw [e1] at q; simp only [Lg.bind_ok] at q ⊢
      cases e2 : Lg.ev C b env st1 with
      | ok y st2 =>
        rw [e2] at q; simp only [Lg.bind_ok] at q ⊢
        split at q
        · intro φ' H' g' rs'
          split at q
          · rename_i hz
            exact ⟨rngOk_ok hz, new_list rs' (rng_reps _ _) (Pst.grow q g')⟩
          · exact q.elim
        · exact q.elim
      | exc _ _ => rw [e2] at q; exact q
      | bad => rw [e2] at q; exact q
    | exc _ _ => rw [e1] at q; exact q
    | bad => rw [e1] at q; exact q
theorem sn_lrange1 {m : Bool} {p p2 p3 : Pos} (hc : X.calm = true) (hg : Gl X "list") (hm : X.mg "list" = none) (hg2 : Gl X "range") (hm2 : X.mg "range" = none) (hs : nstar r = true) (hb : PE X r (tE X.K cv W C b)) :
    PE X (.Call (.Name "list" p) [.Call (.Name "range" p2) [r] [] p3] [] pos) (tE X.K cv W C (.lrange m (.int 0) b)) :=
  sn_lrange hc hg hm (prg_1 hg2 hm2 hb (star_cons hs)) fun σ H Q env st φ re rs q => by
    simp only [Lg.ev, Lg.bind_ok] at q
    refine tE.fst re rs q fun x dx st1 φ1 H1 g1 re1 rs1 rx q1 => ?_
    cases rx <;> first
      | exact q1.elim
      | exact ⟨_, rfl, q1.here rs1⟩
theorem sn_lrange2 {m : Bool} {p p2 p3 : Pos} (hc : X.calm = true) (hg : Gl X "list") (hm : X.mg "list" = none) (hg2 : Gl X "range") (hm2 : X.mg "range" = none) (hs : nstar l = true) (hs2 : nstar r = true) (ha : PE X l (tE X.K cv W C a)) (hb : PE X r (tE X.K cv W C b)) :
    PE X (.Call (.Name "list" p) [.Call (.Name "range" p2) [l, r] [] p3] [] pos) (tE X.K cv W C (.lrange m a b)) :=
  sn_lrange hc hg hm (prg_2 hg2 hm2 ha hb (star_cons hs) (star_cons hs2) (star_any (es := [r]) (by simp [hs2]))) fun σ H Q env st φ re rs q =>
    tE.fst re rs q fun x dx st1 φ1 H1 g1 re1 rs1 rx q1 => tE.fst re1 rs1 q1 fun y dy st2 φ2 H2 g2 re2 rs2 ry q2 => by
      cases rx <;> cases ry <;> first
        | exact q2.elim
        | exact ⟨_, _, rfl, rfl, q2.here rs2⟩
/-! ### methods -/
theorem base_ok {f : Str} {w : Sem Value} {env : PySem.Env} (h : plainBase l = true) : attributeBase l f env w = w := by
  cases l <;> first | rfl | cases h
theorem few_ok {n : Nat} {env : PySem.Env} (hs : nstar l = true) : ((backTo pos (starEach [l] env)).all (fun x => !x.1) && (backToKw pos (keywordEach [] env)).all (fun x => x.1.isSome)
      && decide ([l].length + ([] : List Keyword).length + (if ([] : List Keyword).isEmpty then 0 else 1) < 30)) = true := by
  rw [star_cons hs]; rfl
theorem sn_append {ap : Pos} (hp : plainBase l = true) (hl : (ap.endLine == pos.line) = true) (hs : nstar r = true) (ha : PE X l (tE X.K cv W C a)) (hb : PE X r (tE X.K cv W C b)) :
    PE X (.Call (.Attribute l "append" ap) [r] [] pos) (tE X.K cv W C (.meth .append a (.cons b .nil))) :=
  (pe_bm PySem.F.plainAttrs_list PySem.F.slot_list_append PySem.F.type_list_append mt_append ha (pa_cons hb pa_nil (star_cons hs)) (base_ok hp) (few_ok (n := 0) hs) hl (star_cons hs) rfl).to fun σ H Q ⟨env, st, φ, re, rs, q⟩ => by
    simp only [Lg.ev, Lg.evs] at q
    refine tE.fst re rs q fun x dx st1 φ1 H1 g1 re1 rs1 rx q1 => ?_
    cases rx with
    | @ref l0 ad h1 =>
      obtain ⟨ds0, ed0⟩ : ∃ ds0, st1[l0]? = some (.lst ds0) := by
        cases ec : st1[l0]? with
        | none => simp only [Lg.guardB, Lg.methOk, ec] at q1; exact q1.elim
        | some c0 =>
          cases c0 with
          | lst ds0 => exact ⟨ds0, rfl⟩
          | ins _ _ _ => simp only [Lg.guardB, Lg.methOk, ec] at q1; exact q1.elim
      simp only [Lg.guardB, Lg.methOk, ed0, if_true, bind_assoc, Lg.bind_ok] at q1
      obtain ⟨ad0, vs0, ea0, e0, _⟩ := rs1.cell l0 _ ed0
      rw [h1] at ea0; cases ea0
      refine ⟨.inl ⟨rfl, vs0, .of e0⟩, tE.fst re1 rs1 q1 fun y dy st2 φ2 H2 g2 re2 rs2 ry q2 => ?_⟩
      simp only [Lg.meth] at q2
      split at q2
      · rename_i xs e
        split at q2
        · rename_i hz
          obtain ⟨ad', vs, k1, k2, k3⟩ := rs2.cell l0 _ e
          rw [g2.get h1] at k1; cases k1
          obtain ⟨g3, rs3⟩ := rs2.write (g2.get h1) (k3.append (.cons ry .nil))
          exact ⟨_, vs, y, rfl, rfl, k2, by rw [k3.length, ← size_eq]; exact hz, q2 _ _ g3 rs3 _ .non⟩
        · exact q2.elim
      · exact q2.elim
    | _ => exact q1.elim
theorem sn_pop {ap : Pos} (hp : plainBase l = true) (hl : (ap.endLine == pos.line) = true) (ha : PE X l (tE X.K cv W C a)) :
    PE X (.Call (.Attribute l "pop" ap) [] [] pos) (tE X.K cv W C (.meth .pop a .nil)) :=
  (pe_bm0 PySem.F.plainAttrs_list PySem.F.slot_list_pop PySem.F.type_list_pop mt_pop ha (base_ok hp) hl).to fun σ H Q ⟨env, st, φ, re, rs, q⟩ => by
    simp only [Lg.ev, Lg.evs] at q
    refine tE.fst re rs q fun x dx st1 φ1 H1 g1 re1 rs1 rx q1 => ?_
    cases rx with
    | @ref l0 ad h1 =>
      obtain ⟨ds0, ed0⟩ : ∃ ds0, st1[l0]? = some (.lst ds0) := by
        cases ec : st1[l0]? with
        | none => simp only [Lg.guardB, Lg.methOk, ec] at q1; exact q1.elim
        | some c0 =>
          cases c0 with
          | lst ds0 => exact ⟨ds0, rfl⟩
          | ins _ _ _ => simp only [Lg.guardB, Lg.methOk, ec] at q1; exact q1.elim
      simp only [Lg.guardB, Lg.methOk, ed0, if_true, Lg.bind_ok, Lg.meth] at q1
      obtain ⟨ad0, vs0, ea0, e0, _⟩ := rs1.cell l0 _ ed0
      rw [h1] at ea0; cases ea0
      refine ⟨.inl ⟨rfl, vs0, .of e0⟩, ?_⟩
      split at q1
      · rename_i y ey
        obtain ⟨ad', vs, k1, k2, k3⟩ := rs1.cell l0 _ ed0
        rw [h1] at k1; cases k1
        obtain ⟨g3, rs3⟩ := rs1.write h1 k3.dropLast
        rw [List.getLast?_eq_getElem?] at ey
        obtain ⟨v, e1, e2⟩ := k3.get ey
        exact ⟨_, vs, v, rfl, rfl, k2, by rw [k3.length]; exact e1, q1 _ _ g3 rs3 _ (e2.grow g3)⟩
      · exact q1.elim
    | _ => exact q1.elim
theorem sn_extend {ap : Pos} (hp : plainBase l = true) (hl : (ap.endLine == pos.line) = true) (hs : nstar r = true) (ha : PE X l (tE X.K cv W C a)) (hb : PE X r (tE X.K cv W C b)) :
    PE X (.Call (.Attribute l "extend" ap) [r] [] pos) (tE X.K cv W C (.meth .extend a (.cons b .nil))) :=
  (pe_bm PySem.F.plainAttrs_list PySem.F.slot_list_extend PySem.F.type_list_extend mt_extend ha (pa_cons hb pa_nil (star_cons hs)) (base_ok hp) (few_ok (n := 0) hs) hl (star_cons hs) rfl).to fun σ H Q ⟨env, st, φ, re, rs, q⟩ => by
    simp only [Lg.ev, Lg.evs] at q
    refine tE.fst re rs q fun x dx st1 φ1 H1 g1 re1 rs1 rx q1 => ?_
    cases rx with
    | @ref l0 ad h1 =>
      obtain ⟨ds0, ed0⟩ : ∃ ds0, st1[l0]? = some (.lst ds0) := by
        cases ec : st1[l0]? with
        | none => simp only [Lg.guardB, Lg.methOk, ec] at q1; exact q1.elim
        | some c0 =>
          cases c0 with
          | lst ds0 => exact ⟨ds0, rfl⟩
          | ins _ _ _ => simp only [Lg.guardB, Lg.methOk, ec] at q1; exact q1.elim
      simp only [Lg.guardB, Lg.methOk, ed0, if_true, bind_assoc, Lg.bind_ok] at q1
      obtain ⟨ad0, vs0, ea0, e0, _⟩ := rs1.cell l0 _ ed0
      rw [h1] at ea0; cases ea0
      refine ⟨.inl ⟨rfl, vs0, .of e0⟩, tE.fst re1 rs1 q1 fun y dy st2 φ2 H2 g2 re2 rs2 ry q2 => ?_⟩
      cases ry with
      | scr z1 z2 z3 =>
        simp only [Lg.meth] at q2
        split at q2
        · rename_i xs e
          split at q2
          · rename_i hz
            obtain ⟨ad', vs, k1, k2, k3⟩ := rs2.cell l0 _ e
            rw [g2.get h1] at k1; cases k1
            obtain ⟨g3, rs3⟩ := rs2.write (g2.get h1) (k3.append z3)
            exact ⟨_, _, vs, _, rfl, rfl, k2, z1, by rw [k3.length, z3.length, ← size_eq]; exact hz, q2 _ _ g3 rs3 _ .non⟩
          · exact q2.elim
        · exact q2.elim
      | _ => simp [Lg.meth] at q2; exact q2.elim
    | _ => exact q1.elim
theorem find_spec {α : Type} {p : α → Bool} : ∀ {xs : List α} {j : Nat}, xs.findIdx? p = some j → (∃ z, xs[j]? = some z ∧ p z = true) ∧ ∀ m z, m < j → xs[m]? = some z → p z = false
  | [], j, h => by simp at h
  | x :: r, j, h => by
    rw [List.findIdx?_cons] at h
    cases e : p x with
    | true =>
      rw [e] at h
      simp at h
      subst h
      exact ⟨⟨x, rfl, e⟩, fun m z hm => absurd hm (Nat.not_lt_zero m)⟩
    | false =>
      rw [e] at h
      simp only [Bool.false_eq_true, if_false, Option.map_eq_some_iff] at h
      obtain ⟨i, hi, rfl⟩ := h
      obtain ⟨⟨z, z1, z2⟩, z3⟩ := find_spec hi
      refine ⟨⟨z, by simpa using z1, z2⟩, fun m y hm hy => ?_⟩
      cases m with
      | zero => simp at hy; rw [← hy]; exact e
      | succ m => exact z3 m y (by omega) (by simpa using hy)
theorem sn_index {ap : Pos} (hp : plainBase l = true) (hl : (ap.endLine == pos.line) = true) (hs : nstar r = true) (ha : PE X l (tE X.K cv W C a)) (hb : PE X r (tE X.K cv W C b)) :
    PE X (.Call (.Attribute l "index" ap) [r] [] pos) (tE X.K cv W C (.meth .index a (.cons b .nil))) :=
  (pe_bm PySem.F.plainAttrs_list PySem.F.slot_list_index PySem.F.type_list_index mt_index ha (pa_cons hb pa_nil (star_cons hs)) (base_ok hp) (few_ok (n := 0) hs) hl (star_cons hs) rfl).to fun σ H Q ⟨env, st, φ, re, rs, q⟩ => by
    simp only [Lg.ev, Lg.evs] at q
    refine tE.fst re rs q fun x dx st1 φ1 H1 g1 re1 rs1 rx q1 => ?_
    cases rx with
    | @ref l0 ad h1 =>
      obtain ⟨ds0, ed0⟩ : ∃ ds0, st1[l0]? = some (.lst ds0) := by
        cases ec : st1[l0]? with
        | none => simp only [Lg.guardB, Lg.methOk, ec] at q1; exact q1.elim
        | some c0 =>
          cases c0 with
          | lst ds0 => exact ⟨ds0, rfl⟩
          | ins _ _ _ => simp only [Lg.guardB, Lg.methOk, ec] at q1; exact q1.elim
      simp only [Lg.guardB, Lg.methOk, ed0, if_true, bind_assoc, Lg.bind_ok] at q1
      obtain ⟨ad0, vs0, ea0, e0, _⟩ := rs1.cell l0 _ ed0
      rw [h1] at ea0; cases ea0
      refine ⟨.inl ⟨rfl, vs0, .of e0⟩, tE.fst re1 rs1 q1 fun y dy st2 φ2 H2 g2 re2 rs2 ry q2 => ?_⟩
      simp only [Lg.meth] at q2
      split at q2
      · rename_i xs e
        split at q2
        · rename_i hz
          split at q2
          · rename_i j hj
            obtain ⟨ad', vs, k1, k2, k3⟩ := rs2.cell l0 _ e
            rw [g2.get h1] at k1; cases k1
            obtain ⟨⟨z, z1, z2⟩, z3⟩ := find_spec hj
            simp only [Bool.and_eq_true] at hz
            obtain ⟨v, v1, v2⟩ := k3.get z1
            refine ⟨_, vs, y, j, v, rfl, rfl, .of k2, flat_rep ry hz.1, flat_reps k3 hz.2, v1, ?_, fun m z' hm hz' => ?_, q2.here rs2 _ (.int _)⟩
            · rw [eqV_deq v2 ry (List.all_eq_true.mp hz.2 _ (List.mem_of_getElem? z1)) hz.1]; exact z2
            · have hml : m < xs.length := by rw [← k3.length]; exact (List.getElem?_eq_some_iff.mp hz').1
              obtain ⟨v', v1', v2'⟩ := k3.get (List.getElem?_eq_getElem hml)
              rw [v1'] at hz'; cases hz'
              rw [eqV_deq v2' ry (List.all_eq_true.mp hz.2 _ (List.getElem_mem hml)) hz.1]
              exact z3 m _ hm (List.getElem?_eq_getElem hml)
          · exact q2.elim
        · exact q2.elim
      · exact q2.elim
    | _ => exact q1.elim
theorem sn_bits {ap : Pos} (hp : plainBase l = true) (hl : (ap.endLine == pos.line) = true) (ha : PE X l (tE X.K cv W C a)) :
    PE X (.Call (.Attribute l "bit_length" ap) [] [] pos) (tE X.K cv W C (.meth .bitLength a .nil)) :=
  (pe_bits ha (base_ok hp) hl).to fun σ H Q ⟨env, st, φ, re, rs, q⟩ => by
    simp only [Lg.ev, Lg.evs] at q
    refine tE.fst re rs q fun x dx st1 φ1 H1 g1 re1 rs1 rx q1 => ?_
    cases rx with
    | int i =>
      simp only [Lg.guardB, Lg.methOk, if_true, Lg.bind_ok, Lg.meth] at q1
      rw [bits_eq] at q1
      exact ⟨i, rfl, q1.here rs1 _ (.int _)⟩
    | _ => exact q1.elim
end
end So
namespace So
open PySem PySem.Spec PyProof.Rows L2
/-! ### fields -/
theorem fix_get {f : String} : ∀ {ns : List String} {i : Nat}, Lg.fix f ns = some i → ns[i]? = some f
  | [], i, h => by simp [Lg.fix] at h
  | g :: r, i, h => by
    simp only [Lg.fix] at h
    split at h
    · rename_i e
      cases h
      rw [e]; rfl
    · obtain ⟨j, h1, rfl⟩ := Option.map_eq_some_iff.mp h
      simpa using fix_get h1
theorem fix_mem {f : String} {ns : List String} {i : Nat} (h : Lg.fix f ns = some i) : f ∈ ns := List.mem_of_getElem? (fix_get h)
theorem ofString_ne {f g : String} (h : ¬ g = f) : ¬ Str.ofString g = Str.ofString f := fun e => h (str_inj e)
theorem fvs_lookup {f : String} {v : V} : ∀ {ns : List String} {vs : List V} {i : Nat}, Lg.fix f ns = some i → vs[i]? = some v → (fvs ns vs).lookup (Str.ofString f) = some v
  | [], _, _, h, _ => by simp [Lg.fix] at h
  | g :: r, [], i, h, e => by simp at e
  | g :: r, x :: vs, i, h, e => by
    simp only [Lg.fix] at h
    show List.lookup (Str.ofString f) ((Str.ofString g, x) :: fvs r vs) = some v
    rw [List.lookup_cons, str_beq]
    split at h
    · rename_i e0
      cases h
      subst e0
      simp at e
      subst e
      simp
    · rename_i ne
      obtain ⟨j, h1, rfl⟩ := Option.map_eq_some_iff.mp h
      have e1 : (f == g) = false := by simpa using fun z : f = g => ne z.symm
      rw [e1]
      exact fvs_lookup h1 (by simpa using e)
theorem fvs_none {f : String} : ∀ {ns : List String} {vs : List V}, f ∉ ns → (fvs ns vs).lookup (Str.ofString f) = none
  | [], _, h => rfl
  | g :: r, [], h => rfl
  | g :: r, x :: vs, h => by
    show List.lookup (Str.ofString f) ((Str.ofString g, x) :: fvs r vs) = none
    rw [List.lookup_cons, str_beq]
    have e1 : (f == g) = false := by simpa using fun z : f = g => h (by rw [z]; exact List.mem_cons_self)
    rw [e1]
    exact fvs_none fun z => h (List.mem_cons_of_mem _ z)
theorem fvs_set {f : String} {y : V} : ∀ {ns : List String} {vs : List V} {i : Nat}, Lg.fix f ns = some i → i < vs.length → putF (Str.ofString f) y (fvs ns vs) = fvs ns (vs.set i y)
  | [], _, _, h, _ => by simp [Lg.fix] at h
  | g :: r, [], i, h, e => by simp at e
  | g :: r, x :: vs, i, h, e => by
    simp only [Lg.fix] at h
    show putF (Str.ofString f) y ((Str.ofString g, x) :: fvs r vs) = _
    unfold putF
    split at h
    · rename_i e0
      cases h
      subst e0
      rw [if_pos rfl]; rfl
    · rename_i ne
      obtain ⟨j, h1, rfl⟩ := Option.map_eq_some_iff.mp h
      rw [if_neg (ofString_ne ne), fvs_set h1 (by simpa using e)]; rfl
theorem fvs_app {f : String} {y : V} : ∀ {ns : List String} {vs : List V}, Lg.fix f ns = some vs.length → putF (Str.ofString f) y (fvs ns vs) = fvs ns (vs ++ [y])
  | [], _, h => by simp [Lg.fix] at h
  | g :: r, [], h => by
    simp only [Lg.fix] at h
    split at h
    · rename_i e0
      subst e0
      simp [fvs, putF]
    · obtain ⟨j, h1, h2⟩ := Option.map_eq_some_iff.mp h
      simp at h2
  | g :: r, x :: vs, h => by
    simp only [Lg.fix] at h
    show putF (Str.ofString f) y ((Str.ofString g, x) :: fvs r vs) = _
    unfold putF
    split at h
    · simp at h
    · rename_i ne
      obtain ⟨j, h1, h2⟩ := Option.map_eq_some_iff.mp h
      have h3 : j = vs.length := by simpa using h2
      subst h3
      rw [if_neg (ofString_ne ne), fvs_app h1]; rfl
theorem fvs_length {ns : List String} {vs : List V} : (fvs ns vs).length ≤ ns.length := by
  unfold fvs; rw [List.length_zip, List.length_map]; omega
section
variable {K : PySem.W.Frag} {cv : String → Value} {W : WX} {σ : L2.St} {φ : Ph} {H : Hp} {st : Lg.Store}
theorem fld_read (rs : RepSt K φ H st) {x : V} {d : Lg.D} {f : String} (hx : Rep K φ H x d) {Q : VK} (q : Pst K cv W σ φ H (Lg.fldD d f st) (kQ K Q)) :
    ∃ a c dx fs v dv, x = .ref a ∧ H a = some (.ins (He.ga K (Str.ofString c)) dx fs) ∧ L2.Cls K (He.ga K (Str.ofString c)) ∧ NoAttr K (He.ga K (Str.ofString c)) (Str.ofString f) ∧ fs.lookup (Str.ofString f) = some v ∧ Rep K φ H v dv ∧ Lg.clsD d st = some c ∧ Q v H := by
  unfold Lg.fldD at q
  split at q
  · rename_i l
    split at q
    · rename_i C ns ds e
      split at q
      · rename_i dv e2
        obtain ⟨i, h1, h2⟩ := Option.bind_eq_some_iff.mp e2
        obtain ⟨kk, hl, a, dx, vs, g1, g2, g3⟩ := rs.icell l C ns ds e
        cases hx with
        | obj h0 =>
          rw [h0] at g1; cases g1
          obtain ⟨v, k1, k2⟩ := g3.get h2
          exact ⟨_, _, dx, _, v, dv, rfl, g2, kk.cl, kk.na f (fix_mem h1), fvs_lookup h1 k1, k2, by simp only [Lg.clsD, e], q.here rs _ k2⟩
      · exact q.elim
    · exact q.elim
  · exact q.elim
theorem fld_bind {α : Type} (rs : RepSt K φ H st) {x : V} {d : Lg.D} {f : String} (hx : Rep K φ H x d) {g : Lg.D → Lg.Store → Lg.Out α} {k : α → Lg.Store → Ph → Hp → Prop} (q : Pst K cv W σ φ H ((Lg.fldD d f st).bind g) k) :
    ∃ a c dx fs v dv, x = .ref a ∧ H a = some (.ins (He.ga K (Str.ofString c)) dx fs) ∧ L2.Cls K (He.ga K (Str.ofString c)) ∧ NoAttr K (He.ga K (Str.ofString c)) (Str.ofString f) ∧ fs.lookup (Str.ofString f) = some v ∧ Rep K φ H v dv ∧ Lg.clsD d st = some c ∧ Pst K cv W σ φ H (g dv st) k := by
  unfold Lg.fldD at q
  split at q
  · rename_i l
    split at q
    · rename_i C ns ds e
      split at q
      · rename_i dv e2
        obtain ⟨i, h1, h2⟩ := Option.bind_eq_some_iff.mp e2
        obtain ⟨kk, hl, a, dx, vs, g1, g2, g3⟩ := rs.icell l C ns ds e
        cases hx with
        | obj h0 =>
          rw [h0] at g1; cases g1
          obtain ⟨v, k1, k2⟩ := g3.get h2
          exact ⟨_, C, dx, _, v, dv, rfl, g2, kk.cl, kk.na f (fix_mem h1), fvs_lookup h1 k1, k2, by simp only [Lg.clsD, e], q⟩
      · exact q.elim
    · exact q.elim
  · exact q.elim
theorem setF_read (rs : RepSt K φ H st) {x y : V} {d dv : Lg.D} {f : String} (hx : Rep K φ H x d) (hv : Rep K φ H y dv) {Q : Hp → Prop} (q : Pst K cv W σ φ H (Lg.setF d f dv st) (fun _ _ _ H' => Q H')) :
    ∃ a c dx fs, x = .ref a ∧ H a = some (.ins (He.ga K (Str.ofString c)) dx fs) ∧ L2.Cls K (He.ga K (Str.ofString c)) ∧ NoAttr K (He.ga K (Str.ofString c)) (Str.ofString f) ∧ fs.length < 1000 ∧ Lg.clsD d st = some c ∧ Q (upd H a (.ins (He.ga K (Str.ofString c)) dx (putF (Str.ofString f) y fs))) := by
  unfold Lg.setF at q
  split at q
  · rename_i l
    split at q
    · rename_i C ns ds e
      split at q
      · rename_i i h1
        obtain ⟨kk, hl, a, dx, vs, g1, g2, g3⟩ := rs.icell l C ns ds e
        cases hx with
        | obj h0 =>
          rw [h0] at g1; cases g1
          have hlt : (fvs ns vs).length < 1000 := Nat.lt_of_le_of_lt fvs_length kk.few
          split at q
          · rename_i hi
            obtain ⟨g, rs'⟩ := rs.writeC h0 (o := .ins (He.ga K (Str.ofString C)) dx (fvs ns (vs.set i y))) (c := .ins C ns (ds.set i dv)) ⟨kk, by simpa using hl, dx, _, rfl, g3.set hv i⟩
            refine ⟨_, _, dx, _, rfl, g2, kk.cl, kk.na f (fix_mem h1), hlt, by simp only [Lg.clsD, e], ?_⟩
            rw [fvs_set h1 (by rw [g3.length]; exact hi)]
            exact q _ _ g rs'
          · split at q
            · rename_i hi
              have hn := List.getElem?_eq_some_iff.mp (fix_get h1)
              obtain ⟨hn1, _⟩ := hn
              obtain ⟨g, rs'⟩ := rs.writeC h0 (o := .ins (He.ga K (Str.ofString C)) dx (fvs ns (vs ++ [y]))) (c := .ins C ns (ds ++ [dv])) ⟨kk, by simp; omega, dx, _, rfl, g3.append (.cons hv .nil)⟩
              refine ⟨_, _, dx, _, rfl, g2, kk.cl, kk.na f (fix_mem h1), hlt, by simp only [Lg.clsD, e], ?_⟩
              rw [fvs_app (by rw [h1, g3.length, hi])]
              exact q _ _ g rs'
            · exact q.elim
      · exact q.elim
    · exact q.elim
  · exact q.elim
end
section
variable {X : L2.Cx} {cv : String → Value} {W : WX} {C : Lg.Cx} {a : Lg.E} {l : Expr} {pos : Pos}
theorem sn_fld {f : String} (hp : plainBase l = true) (ha : PE X l (tE X.K cv W C a)) : PE X (.Attribute l (Str.ofString f) pos) (tE X.K cv W C (.fld a f)) :=
  (pe_fld ha (base_ok hp)).to fun σ H Q ⟨env, st, φ, re, rs, q⟩ => by
    simp only [Lg.ev] at q
    refine tE.fst re rs q fun x dx st1 φ1 H1 g1 re1 rs1 rx q1 => ?_
    obtain ⟨a, C, dx, fs, v, dv, h1, h2, h3, h4, h5, _, _, h6⟩ := fld_read rs1 rx q1
    exact ⟨a, _, dx, fs, v, h1, h2, h3, h4, h5, h6⟩
/-! ### methods within a try -/
def tMethS (C : Addr) (m : Str) (sp : Sp) (E : L2.St → XK) (ta : TE) (t : TA) : TE := fun σ H Q => ta σ H fun x H1 => ∃ a dx fs, L2.Cls X.K C ∧ x = .ref a ∧ H1 a = some (.ins C dx fs) ∧ fs.lookup m = none ∧ t σ H1 fun vs H2 => sp (x :: vs) H2 Q (E σ)
theorem few_all {env : PySem.Env} : ∀ {es : List Expr}, es.all nstar = true → (backTo pos (starEach es env)).all (fun x => !x.1) = true := fun {es} h => by
  have k := star_any (env := env) (pos := pos) h
  rw [List.all_eq_true]
  intro x hx
  rw [List.any_eq_false] at k
  simpa using k x hx
theorem meth_ev (m : Str) {apos : Pos} {es : List Expr} {env : PySem.Env} (hp : plainBase l = true) (hl : (apos.endLine == pos.line) = true) (hs : es.all nstar = true) (hz : es.length < 30) : ∃ pl : Sem Bool, eval (.Call (.Attribute l m apos) es [] pos) env = (do
      let ov ← eval l env
      standAt apos.atName
      let (f, first) ← holding [ov] (getMethod ov m pl)
      callWith pos f first (backTo pos (starEach es env)) (backToKw pos (keywordEach [] env))) := by
  have hform : methodCallForm (es.length + ([] : List Keyword).length) (backTo pos (starEach es env)) (backToKw pos (keywordEach [] env)) = true := by
    unfold methodCallForm
    rw [few_all hs]
    show (true && true && decide (es.length + 0 + 0 < 30)) = true
    simp only [Bool.true_and]
    exact decide_eq_true (by omega)
  have hpos : methodCallPos true l env apos pos = pure pos := by unfold methodCallPos; simp [hl]
  rw [arm_eval_Call, base_ok hp]
  unfold methodCall
  rw [hform, hpos]
  exact ⟨_, rfl⟩
theorem pe_methS {CX : CXT} {k : Nat} {f C : Addr} {fd : FuncData} {ps : List Str} {sp : Sp} {E : L2.St → XK} {m : Str} {apos : Pos} {e : Expr} {es : List Expr} {ta : TE} {t : TA} (he : PE X l ta) (hp : plainBase l = true) (hl : (apos.endLine == pos.line) = true) (hm : Meth X.K C m f)
    (F : FnOk X.prog X.w X.K X.mg X.base CX k f fd ps sp) (hr : Room k X.A) (hb : Binds X.K fd ps []) (hx : ∀ σ, PassesAt CX X σ (E σ)) (ha : PA X (e :: es) t) (hs : (e :: es).all nstar = true) (hz : (e :: es).length < 30) :
    PE X (.Call (.Attribute l m apos) (e :: es) [] pos) (tMethS (X := X) C m sp E ta t) := by
  obtain ⟨pl, ht⟩ := meth_ev (l := l) (pos := pos) m (apos := apos) (es := e :: es) (env := X.env) hp hl hs hz
  refine ⟨fun pins s σ H Q I h => ?_⟩
  refine PySem.W.methodCall_KW (pl := pl) (thn (he.run pins s σ H _ I h) fun u s1 ⟨x, H1, I1, rx, a, dx, fs, c, ex, ea, l, q⟩ => ?_) ht
  subst ex
  obtain rfl : u = Value.ref a := rx
  refine getmeth_ok I1 ea c hm l ?_
  rw [List.all_cons, Bool.and_eq_true] at hs
  refine PySem.W.callWith_K (first := [.ref a]) (h₀ := X.base) I.ok.mod.kin hm.kp (thn (ha.run pos pins s1 σ H1 _ I1 q) fun us s2 ⟨vs, H2, I2, r, q2⟩ => ⟨I2.kIn, ?_⟩) (star_cons hs.1) (star_any hs.2)
  exact run_fnS (us := .ref a :: us) (vs := .ref a :: vs) F hr hb (hx σ) I2 (.cons rfl r) q2
theorem pe_methS0 {CX : CXT} {k : Nat} {f C : Addr} {fd : FuncData} {ps : List Str} {sp : Sp} {E : L2.St → XK} {m : Str} {apos : Pos} {ta : TE} (he : PE X l ta) (hp : plainBase l = true) (hl : (apos.endLine == pos.line) = true) (hm : Meth X.K C m f)
    (F : FnOk X.prog X.w X.K X.mg X.base CX k f fd ps sp) (hr : Room k X.A) (hb : Binds X.K fd ps []) (hx : ∀ σ, PassesAt CX X σ (E σ)) :
    PE X (.Call (.Attribute l m apos) [] [] pos) (tMethS (X := X) C m sp E ta tNil) := by
  obtain ⟨pl, ht⟩ := meth_ev (l := l) (pos := pos) m (apos := apos) (es := []) (env := X.env) hp hl rfl (by decide)
  refine ⟨fun pins s σ H Q I h => ?_⟩
  refine PySem.W.methodCall_KW (pl := pl) (thn (he.run pins s σ H _ I h) fun u s1 ⟨x, H1, I1, rx, a, dx, fs, c, ex, ea, l, q⟩ => ?_) ht
  subst ex
  obtain rfl : u = Value.ref a := rx
  refine getmeth_ok I1 ea c hm l ?_
  exact PySem.W.callWith_K0 (first := [.ref a]) I1.kIn hm.kp (run_fnS (us := [.ref a]) (vs := [.ref a]) F hr hb (hx σ) I1 (.cons rfl .nil) q)
theorem cls_read {K : PySem.W.Frag} {φ : Ph} {H : Hp} {st : Lg.Store} (rs : RepSt K φ H st) {x : V} {d : Lg.D} {c m : String} (hx : Rep K φ H x d) (h : Lg.isCls st c m d = true) :
    ∃ a dx fs, L2.Cls K (He.ga K (Str.ofString c)) ∧ x = .ref a ∧ H a = some (.ins (He.ga K (Str.ofString c)) dx fs) ∧ fs.lookup (Str.ofString m) = none := by
  unfold Lg.isCls at h
  split at h
  · rename_i l
    split at h
    · rename_i c' ns ds e
      simp only [Bool.and_eq_true, decide_eq_true_eq, Bool.not_eq_true', List.contains_eq_mem, decide_eq_false_iff_not] at h
      obtain ⟨rfl, hn⟩ := h
      obtain ⟨kk, hl, a, dx, vs, g1, g2, g3⟩ := rs.icell l _ ns ds e
      cases hx with
      | obj h0 =>
        rw [h0] at g1; cases g1
        exact ⟨_, dx, _, kk.cl, rfl, g2, fvs_none hn⟩
    · cases h
  · cases h
theorem sn_mcall {c m : String} {g : String} {I : Lg.CI} {as : Lg.Es} {es : List Expr} {apos : Pos} {fa : Addr} {fd : FuncData} {ps : List Str} {k : Nat} (tk : Takes X W) (hI : C.ci c = some I) (hg : I.ms.lookup m = some g) (hp : plainBase l = true) (hl : (apos.endLine == pos.line) = true)
    (hm : Meth X.K (He.ga X.K (Str.ofString c)) (Str.ofString m) fa) (hr : Room k X.A) (hb : Binds X.K fd ps []) (F : FnOk X.prog X.w X.K X.mg X.base (L2.CX X.prog X.w) k fa fd ps (spC X.K cv (C.call g))) (hs : es.all nstar = true) (hz : es.length < 30)
    (ho : PE X l (tE X.K cv W C a)) (ha : PA X es (tA X.K cv W C as)) (hn : es = [] → as = .nil) : PE X (.Call (.Attribute l (Str.ofString m) apos) es [] pos) (tE X.K cv W C (.mcall a c m as)) := by
  have key : ∀ {σ : L2.St} {H : Hp} {Q : VK}, tE X.K cv W C (.mcall a c m as) σ H Q → tMethS (X := X) (He.ga X.K (Str.ofString c)) (Str.ofString m) (spC X.K cv (C.call g)) (WE W) (tE X.K cv W C a) (tA X.K cv W C as) σ H Q := fun {σ H Q} ⟨env, st, φ, re, rs, q⟩ => by
    simp only [Lg.ev, hI, Option.bind_some, hg] at q
    refine tE.fst re rs q fun x dx st1 φ1 H1 g1 re1 rs1 rx q1 => ?_
    split at q1
    · rename_i hcl
      obtain ⟨ad, dd, fs, k1, k2, k3, k4⟩ := cls_read rs1 rx hcl
      refine ⟨ad, dd, fs, k1, k2, k3, k4, tA.fst re1 rs1 q1 fun xs ds st2 φ2 H2 g2 re2 rs2 rxs q2 => ⟨_, st2, φ2, .cons (rx.grow (Grow.h g2)) rxs, rs2, q2.wish⟩⟩
    · exact q1.elim
  cases es with
  | nil =>
    obtain rfl := hn rfl
    refine (pe_methS0 ho hp hl hm F hr hb (fun σ => passAt tk σ)).to fun σ H Q h => ?_
    obtain ⟨env, st, φ, re, rs, q⟩ := h
    simp only [Lg.ev, hI, Option.bind_some, hg] at q
    refine tE.fst re rs q fun x dx st1 φ1 H1 g1 re1 rs1 rx q1 => ?_
    split at q1
    · rename_i hcl
      obtain ⟨ad, dd, fs, k1, k2, k3, k4⟩ := cls_read rs1 rx hcl
      simp only [Lg.evs, Lg.bind_ok] at q1
      exact ⟨ad, dd, fs, k1, k2, k3, k4, _, st1, φ1, .cons rx .nil, rs1, q1.wish⟩
    · exact q1.elim
  | cons e es => exact (pe_methS ho hp hl hm F hr hb (fun σ => passAt tk σ) ha hs hz).to fun σ H Q h => key h
/-! ### instances made -/
def tMakeS (C : Addr) (sp : Sp) (E : L2.St → XK) (t : TA) : TE := fun σ H Q => t σ H fun vs H1 => ∀ x dx, H1 x = none → H1 dx = none → dx ≠ x →
  sp (.ref x :: vs) (upd (upd H1 dx (.own x)) x (.ins C dx [])) (fun v H2 => v = .non ∧ Q (.ref x) H2) (E σ)
theorem run_makeS {k : Nat} {f C : Addr} {fd : FuncData} {ps : List Str} {sp : Sp} {E : L2.St → XK} {pins : List (Addr × Obj)} {σ : L2.St} {H : Hp} {s : Shared} {Q : VK} {us : List Value} {vs : List V} (M : Mk X.K C f) (F : FnOk X.prog X.w X.K X.mg X.base (L2.CX X.prog X.w) k f fd ps sp) (hr : Room (k + 1) X.A) (hb : Binds X.K fd ps [])
    (hx : ∀ σ, PassesAt (L2.CX X.prog X.w) X σ (E σ)) (I : Inv X pins σ H s) (r : Vals vs us)
    (h : ∀ x dx, H x = none → H dx = none → dx ≠ x → sp (.ref x :: vs) (upd (upd H dx (.own x)) x (.ins C dx [])) (fun v H2 => v = .non ∧ Q (.ref x) H2) (E σ)) :
    wpAny (model X.prog X.w) X.A (PySem.call (.ref C) us) (EP X pins σ Q) X.xe s := by
  have hq := h (s.heap.objs.size + 1) s.heap.objs.size (I.hok.fresh (Nat.le_succ _)) (I.hok.fresh (Nat.le_refl _)) (Nat.ne_of_lt (Nat.lt_succ_self _))
  have I2 := Inv.made (C := C) I
  have r2 : Vals (V.ref (s.heap.objs.size + 1) :: vs) (Value.ref (s.heap.objs.size + 1) :: us) := .cons rfl r
  have hl : (Value.ref (s.heap.objs.size + 1) :: us ++ []).length = ps.length := by
    have e := r2.length
    rw [F.len _ _ _ _ hq] at e
    rw [List.append_nil]
    exact e.symm
  have hbb := hb _ (Value.ref (s.heap.objs.size + 1) :: us) I2.kIn hl
  rw [List.append_nil] at hbb
  refine wpAny_call (make_map (f := f) I.kIn M.makes M.init (beq_iff_eq.mp M.fn) (codeAny_mono (F.run _ X.stack _ _ ⟨Value.ref (s.heap.objs.size + 1) :: us, []⟩ (Value.ref (s.heap.objs.size + 1) :: us) _ _ (E σ) (hr.make C us [])
    (I2.env0.make C us []) hbb r2 hq) fun r s' hq' => ?_))
  cases r with
  | error e => exact hx σ pins _ _ e s' I2 hq'
  | ok fl =>
    cases fl with
    | ret u =>
      obtain ⟨v, H', I3, rv, ev, q3⟩ := I2.after hq'
      subst ev
      exact ⟨rv, ⟨V.ref (s.heap.objs.size + 1), H', I3, rfl, q3⟩⟩
    | next => exact False.elim hq'
    | brk => exact False.elim hq'
    | cont => exact False.elim hq'
theorem pe_makeS {k : Nat} {f Ca : Addr} {fd : FuncData} {ps : List Str} {sp : Sp} {E : L2.St → XK} {x : Str} {p : Pos} {e : Expr} {es : List Expr} {t : TA} (M : Mk X.K Ca f) (F : FnOk X.prog X.w X.K X.mg X.base (L2.CX X.prog X.w) k f fd ps sp) (hr : Room (k + 1) X.A) (hg : Gl X x) (hm : X.mg x = some (.ref Ca)) (hb : Binds X.K fd ps [])
    (hx : ∀ σ, PassesAt (L2.CX X.prog X.w) X σ (E σ)) (ha : PA X (e :: es) t) (hdb : (x == ("__debug__" : Str)) = false) (hs : (e :: es).all nstar = true) : PE X (.Call (.Name x p) (e :: es) [] pos) (tMakeS Ca sp E t) := by
  refine ⟨fun pins s σ H Q I h => ?_⟩
  rw [List.all_cons, Bool.and_eq_true] at hs
  refine wpAny_Call_Name_kw (ld_glob I hg hm ?_ hdb)
  refine PySem.W.callWith_K (h₀ := X.base) I.ok.mod.kin M.kp (thn (ha.run pos pins s σ H _ I h) fun us s1 ⟨vs, H1, I1, r, q⟩ => ⟨I1.kIn, ?_⟩) (star_cons hs.1) (star_any hs.2)
  exact run_makeS M F hr hb hx I1 r q
theorem pe_makeS0 {k : Nat} {f Ca : Addr} {fd : FuncData} {ps : List Str} {sp : Sp} {E : L2.St → XK} {x : Str} {p : Pos} (M : Mk X.K Ca f) (F : FnOk X.prog X.w X.K X.mg X.base (L2.CX X.prog X.w) k f fd ps sp) (hr : Room (k + 1) X.A) (hg : Gl X x) (hm : X.mg x = some (.ref Ca)) (hb : Binds X.K fd ps [])
    (hx : ∀ σ, PassesAt (L2.CX X.prog X.w) X σ (E σ)) (hdb : (x == ("__debug__" : Str)) = false) : PE X (.Call (.Name x p) [] [] pos) (tMakeS Ca sp E tNil) := by
  refine ⟨fun pins s σ H Q I h => ?_⟩
  refine wpAny_Call_Name_kw (ld_glob I hg hm ?_ hdb)
  exact PySem.W.callWith_K0 I.kIn M.kp (run_makeS (us := []) M F hr hb hx I .nil h)
/-- a new instance in the store -/
theorem mk_read {K : PySem.W.Frag} {cv : String → Value} {W : WX} {σ : L2.St} {φ : Ph} {H : Hp} {st : Lg.Store} (rs : RepSt K φ H st) {c init : String} {I : Lg.CI} {xs : List V} {ds : List Lg.D} {call : String → List Lg.D → Lg.Store → Lg.Out Lg.D} (kk : Kls K c I.ns) (rxs : Reps K φ H xs ds) {Q : VK}
    (q : Pst K cv W σ φ H ((call init (.obj st.length :: ds) (st ++ [.ins c I.ns []])).bind fun d st2 => if Lg.isNon d then .ok (.obj st.length) st2 else .bad) (kQ K Q)) :
    ∀ x dx, H x = none → H dx = none → dx ≠ x → spC K cv (call init) (.ref x :: xs) (upd (upd H dx (.own x)) x (.ins (He.ga K (Str.ofString c)) dx [])) (fun v H2 => v = .non ∧ Q (.ref x) H2) (WE W σ) := fun x dx h1 h2 h3 => by
  obtain ⟨g1, rs1⟩ := rs.lay h2 (.own x)
  have h1' : (upd H dx (.own x)) x = none := by rw [upd_ne (Ne.symm h3)]; exact h1
  obtain ⟨g2, rs2⟩ := rs1.allocC h1' (o := .ins (He.ga K (Str.ofString c)) dx []) (c := .ins c I.ns []) ⟨kk, Nat.zero_le _, dx, [], by unfold fvs; simp, .nil⟩
  have g := g1.trans g2
  have hget : (φ.snoc x).cs[st.length]? = some x := by
    show (φ.cs ++ [x])[st.length]? = some x
    rw [← rs.len, List.getElem?_append_right (Nat.le_refl _)]
    simp
  refine ⟨.obj st.length :: ds, _, φ.snoc x, .cons (.obj hget) (rxs.grow (Grow.h g)), rs2, ?_⟩
  have q1 := (Pst.grow q g).bind.wish
  refine q1.imp fun d st2 φ3 H3 g3 rs3 q3 v rv => ?_
  cases hd : Lg.isNon d with
  | false => rw [hd] at q3; exact q3.elim
  | true =>
    rw [hd] at q3
    refine ⟨by rw [non_rep rv] at hd; exact of_decide_eq_true hd, ?_⟩
    exact q3 _ _ (Grow.refl _ _) rs3 _ (.obj (g3.get hget))
theorem sn_mk {c : String} {I : Lg.CI} {as : Lg.Es} {es : List Expr} {p : Pos} {fa : Addr} {fd : FuncData} {ps : List Str} {k : Nat} (tk : Takes X W) (hI : C.ci c = some I) (kk : Kls X.K c I.ns) (hg : Gl X (Str.ofString c)) (hd : (Str.ofString c == ("__debug__" : Str)) = false)
    (hm : X.mg (Str.ofString c) = some (.ref (He.ga X.K (Str.ofString c)))) (M : Mk X.K (He.ga X.K (Str.ofString c)) fa) (hr : Room (k + 1) X.A) (hb : Binds X.K fd ps []) (F : FnOk X.prog X.w X.K X.mg X.base (L2.CX X.prog X.w) k fa fd ps (spC X.K cv (C.call I.init))) (hs : es.all nstar = true)
    (ha : PA X es (tA X.K cv W C as)) (hn : es = [] → as = .nil) : PE X (.Call (.Name (Str.ofString c) p) es [] pos) (tE X.K cv W C (.mk c as)) := by
  cases es with
  | nil =>
    obtain rfl := hn rfl
    refine (pe_makeS0 M F hr hg hm hb (fun σ => passAt tk σ) hd).to fun σ H Q ⟨env, st, φ, re, rs, q⟩ => ?_
    simp only [Lg.ev, hI, Lg.evs, Lg.bind_ok] at q
    exact mk_read rs kk .nil q
  | cons e es =>
    refine (pe_makeS M F hr hg hm hb (fun σ => passAt tk σ) ha hd hs).to fun σ H Q ⟨env, st, φ, re, rs, q⟩ => ?_
    simp only [Lg.ev, hI] at q
    exact tA.fst re rs q fun xs ds st1 φ1 H1 g1 re1 rs1 rxs q1 => mk_read rs1 kk rxs q1
end
end So
namespace So
open PySem PySem.Spec PyProof.Rows L2
/-! ### enumerate(tuple) -/
set_option maxHeartbeats 1000000 in
theorem meets_enum1 {v : Value} {o : Obj} {H : Heap → Prop} (B : Begins v o H) :
    Meets (Builtin.«enumerate.__new__» ⟨[.type "enumerate", v], []⟩) (fun _ R s => H s.heap ∧
      R (.ok (.ret (.ref (s.heap.push o).objs.size))) { s with heap := (s.heap.push o).push { cls := .type "enumerate", data := .fields #[.none, .bool false, .ref s.heap.objs.size, rawInt 0, .none, .none] } }) :=
  .of_wp fun prog w A R s h => by
    obtain ⟨hp, g, d, tk, os⟩ := s; obtain ⟨h1, h⟩ := h
    have hsub := sub_enumerate
    have q1 : ∀ {A' : Around} {E : Value → Shared → Prop} {Q : Value → Shared → Prop}, Q (.ref hp.objs.size) ⟨hp.push o, g, d, tk, os⟩ → wpAny (model prog w) A' (pyIter v) Q E ⟨hp, g, d, tk, os⟩ :=
      fun q => B.iter prog w _ _ ⟨hp, g, d, tk, os⟩ _ h1 q
    wp_walk using q1
    refine wpAny_stack_any fun st => wpAny_pure ?_
    split
    · rename_i c _ _ _ _ _
      cases (c == Value.type "enumerate")
      · wp_walk using q1
        exact ⟨_, rfl, h⟩
      · wp_walk using q1
        exact ⟨_, rfl, h⟩
    · wp_walk using q1
      exact ⟨_, rfl, h⟩
theorem call_enumT {prog : Program} {w : World} {A : Around} {E : Value → Shared → Prop} {s : Shared} {l : Addr} {items : Array Value} {Q : Value → Shared → Prop} (hL : s.heap.IsTuple l items)
    (h : ∀ h', IsEnum h' (s.heap.objs.size + 1) s.heap.objs.size 0 .none → h'.IsTupleIter s.heap.objs.size l 0 → h'.objs.size = s.heap.objs.size + 2 →
      (∀ b o, s.heap.get? b = some o → h'.get? b = some o) → Q (.ref (s.heap.objs.size + 1)) { s with heap := h' }) :
    wpAny (model prog w) A (call (.type "enumerate") [.ref l]) Q E s := by
  refine callType_new F.called_enumerate (by decide) (F.typeCall_enumerate_1 _) (F.newCall_enumerate_1 _) (fun obj => F.args_object_init_2 obj _) F.entry_enumerate_new
    (meets_enum1 (begins_tuple l items)) ⟨hL, ?_⟩
  have hz : (s.heap.push { cls := .type "tuple_iterator", data := .fields #[.ref l, .int 0 0] }).objs.size = s.heap.objs.size + 1 := Heap.size_push ..
  show _ ∧ _
  rw [hz]
  have he : IsEnum ((s.heap.push { cls := .type "tuple_iterator", data := .fields #[.ref l, .int 0 0] }).push
      { cls := .type "enumerate", data := .fields #[.none, .bool false, .ref s.heap.objs.size, rawInt 0, .none, .none] }) (s.heap.objs.size + 1) s.heap.objs.size 0 .none := by
    have := Heap.get?_push_size (s.heap.push { cls := .type "tuple_iterator", data := .fields #[.ref l, .int 0 0] })
      (o := { cls := .type "enumerate", data := .fields #[.none, .bool false, .ref s.heap.objs.size, rawInt 0, .none, .none] }) rfl
    rw [hz] at this; exact this
  refine ⟨⟨_, he, rfl⟩, h _ he ⟨_, Heap.get?_push_of_some _ (Heap.get?_push_size _ rfl), rfl, rfl⟩ (by rw [Heap.size_push, hz]) fun b o x => Heap.get?_push_of_some _ (Heap.get?_push_of_some _ x)⟩
def IteT (K : PySem.W.Frag) (a : Addr) : It :=
  ⟨fun i H => ∃ (xs : List V) (x : V), SqT K H a xs ∧ xs[i]? = some x, fun i H v H' => ∃ T x, v = .ref T ∧ H T = none ∧ H' = upd H T (.tup [.int (i : Nat), x]) ∧ ∀ xs, SqT K H a xs → xs[i]? = some x, fun i H => ∃ xs : List V, SqT K H a xs ∧ xs.length = i⟩
theorem turn_enumT {P : Program} {w : World} {K : PySem.W.Frag} {elts : List Expr} {kk : Nat} {tpos : Pos} (a e it : Addr) :
    Turn P w K (.Tuple elts kk tpos) (IteT K a) [e, it] e (fun i h => (∃ old, IsEnum h e it ((i : Nat) : Int) old) ∧ h.IsTupleIter it a i ∧ e ≠ it) where
  mem := by simp
  obj := fun i h st b hb => by
    obtain ⟨⟨old, he⟩, ⟨o, ho, hc, hd⟩, _⟩ := st
    have e' : b = e ∨ b = it := by simpa using hb
    rcases e' with z | z
    · rw [z]; exact ⟨_, he, fun v q => nomatch q⟩
    · rw [z]; exact ⟨o, ho, fun v q => by rw [hd] at q; cases q⟩
  keep := fun i h h' st k => let ⟨⟨old, he⟩, hi, hne⟩ := st; ⟨⟨old, k e (by simp) _ he⟩, hi.at fun o q => k it (by simp) o q, hne⟩
  item := by
    intro X hP hw hK hc i pins s σ H E I hf st hg
    subst hP hw hK
    obtain ⟨⟨old, he⟩, hit, hne⟩ := st
    obtain ⟨xs, x, hq, hx⟩ := hg
    obtain ⟨its, rv, p, hz⟩ := I.tuple hq
    obtain ⟨u, hu, ru⟩ := rv.get hx
    have hel : e < s.heap.objs.size := Heap.lt_size he
    have hil : it < s.heap.objs.size := by obtain ⟨_, q, _⟩ := hit; exact Heap.lt_size q
    have hpt : s.heap.IsTuple a its.toArray := p
    have hai : a ≠ it := by
      rintro rfl
      obtain ⟨o, e1, c1, _⟩ := hit
      obtain ⟨o2, e2, c2, _⟩ := hpt
      rw [e1] at e2; cases e2
      rw [c1] at c2; exact absurd c2 (by decide)
    have hae : a ≠ e := by
      rintro rfl
      obtain ⟨o2, e2, c2, _⟩ := hpt
      rw [he] at e2; cases e2; exact absurd (show Value.type "enumerate" = Value.type "tuple" from c2) (by decide)
    have hn : i < its.toArray.size := by
      have := (List.getElem?_eq_some_iff.mp hu).1
      simpa using this
    refine wpAny_pyNext_enum_itemD (Draws.tuple (prog := X.prog) (w := X.w) (A := X.A.in1) (show X.A.in1.handled = none from I.ok.hd hc) it a hai its.toArray) he ⟨hit, hpt⟩ hn hne (by simp [hne, Ne.symm hae]) fun y h' tk hy ho hst' hT hsz hk => ?_
    have hyu : y = u := by
      have z : its[i]? = some y := by simpa using hy
      rw [hu] at z; exact (Option.some.inj z).symm
    subst hyu
    refine ⟨_, rfl, wpAny_letOwnedTupleGo_enum (s := { s with heap := h', toks := tk + 1 }) ho fun h'' he' sb => ?_⟩
    have hT2 : h''.get? s.heap.objs.size = some { cls := .type "tuple", data := .seq #[.int i tk, y] } := (sb.2 _ (Nat.ne_of_gt hel)).trans hT
    have new : ObjOk X.prog X.w (upd H s.heap.objs.size (.tup [.int (i : Nat), x])) h'' s.heap.objs.size (.tup [.int (i : Nat), x]) :=
      ⟨by show 2 ≤ sizeLine; decide, [.int i tk, y], .cons ⟨_, rfl⟩ (.cons ru .nil), ⟨_, hT2, rfl, _, rfl⟩⟩
    have I1 : Inv X pins σ (upd H s.heap.objs.size (.tup [.int (i : Nat), x])) { s with heap := h'', toks := tk + 1 } :=
      I.turnedNew (ch := [e, it]) (fun b ob hb q => (sb.2 b (fun z => hb (by simp [z]))).trans (hk b ob (fun z => hb (by simp [z])) (fun z => hb (by simp [z])) q)) hf (Nat.le_refl _) new
    refine ⟨.ref s.heap.objs.size, _, I1, rfl, ⟨_, x, rfl, I.hok.fresh (Nat.le_refl _), rfl, fun ys hy => by rw [I.tuple_inj hy hq]; exact hx⟩, ⟨⟨y, ?_⟩, hst'.1.at fun o q => (sb.2 it (Ne.symm hne)).trans q, hne⟩, fun b hb => ?_⟩
    · have e1 : ((i + 1 : Nat) : Int) = (i : Int) + 1 := by omega
      rw [e1]; exact he'
    · have hb' : b < s.heap.objs.size := by
        have e' : b = e ∨ b = it := by simpa using hb
        rcases e' with z | z
        · rw [z]; exact hel
        · rw [z]; exact hil
      rw [upd_ne (Nat.ne_of_lt hb')]
      exact (hf b hb).1
  done := by
    intro X hP hw hK hc i pins s σ H E I hf st hg
    subst hP hw hK
    obtain ⟨⟨old, he⟩, hit, hne⟩ := st
    obtain ⟨xs, hq, hx⟩ := hg
    obtain ⟨its, rv, p, hz⟩ := I.tuple hq
    obtain ⟨f0, f1, f2, f3, f4, f5⟩ := hf it (by simp)
    have hl := rv.length
    have hpt : s.heap.IsTuple a its.toArray := p
    have hai : a ≠ it := by
      rintro rfl
      obtain ⟨o, e1, c1, _⟩ := hit
      obtain ⟨o2, e2, c2, _⟩ := hpt
      rw [e1] at e2; cases e2
      rw [c1] at c2; exact absurd c2 (by decide)
    have en : its.toArray.size = i := by rw [List.size_toArray, ← hl, hx]
    exact wpAny_pyNext_enum_endD (Draws.tuple (prog := X.prog) (w := X.w) (A := X.A.in1) (show X.A.in1.handled = none from I.ok.hd hc) it a hai its.toArray) he ⟨by rw [en]; exact hit, hpt⟩ fun h' eb => ⟨rfl, I.turned (t' := s.toks) (fun b o hb q => eb b o hb q) f0 f1 f3 f4 f5⟩
  self := fun A i s Q E st h => let ⟨⟨_, he⟩, _⟩ := st; wpAny_pyIter_enum he h
/-- enumerate of a list or a tuple, as the value is -/
theorem pi_enumA {X : L2.Cx} {e : Expr} {ta : TA} {p pos tpos : Pos} {elts : List Expr} {kk : Nat} (hg : Gl X "enumerate") (hm : X.mg "enumerate" = none) (ha : PA X [e] ta) (hs : starEach [e] X.env = [(false, eval e X.env)]) :
    PI X (.Tuple elts kk tpos) (.Call (.Name "enumerate" p) [e] [] pos) (fun σ H R => ta σ H fun vs H1 => ∃ a xs, vs = [.ref a] ∧ ((SqL X.K H1 a xs ∧ R (Ite X.K a) H1) ∨ (SqT X.K H1 a xs ∧ R (IteT X.K a) H1))) := by
  refine ⟨fun pins s σ H R I h => ?_⟩
  refine Call_ (ld_blt I hg hm boot_enumerate (PyProof.Rows.callWith_type1 (thn (ha.run pos pins s σ H _ I h) fun us s1 ⟨vs, H1, I1, r1, q1⟩ => ?_) hs rfl))
  obtain ⟨a, xs, ex, hqq⟩ := q1
  subst ex
  have fin : ∀ {b : Addr}, b ∈ [s1.heap.objs.size + 1, s1.heap.objs.size] → FpOk X pins H1 b := fun {b} hb => by
    have e' : b = s1.heap.objs.size + 1 ∨ b = s1.heap.objs.size := by simpa using hb
    have hle : s1.heap.objs.size ≤ b := by
      rcases e' with z | z
      · rw [z]; exact Nat.le_add_right _ _
      · rw [z]; exact Nat.le_refl _
    exact I1.fpOk hle (I1.hok.fresh hle)
  cases r1 with
  | cons r rr =>
    cases rr
    cases r
    rcases hqq with ⟨hq, q⟩ | ⟨hq, q⟩
    · obtain ⟨its, rv, p', hz⟩ := I1.list hq
      refine call_enumerate_list p'.isList fun h' he hit hsz hk => wpAny_pyIter_enum he ?_
      have I2 : Inv X pins σ H1 { s1 with heap := h' } := I1.kept (t' := s1.toks) hk
      exact ⟨s1.heap.objs.size + 1, [s1.heap.objs.size + 1, s1.heap.objs.size], _, _, H1, rfl, I2, turn_enum a (s1.heap.objs.size + 1) s1.heap.objs.size, ⟨⟨.none, he⟩, hit, Nat.succ_ne_self _⟩, fun b hb => fin hb, q⟩
    · obtain ⟨its, rv, p', hz⟩ := I1.tuple hq
      refine call_enumT (items := its.toArray) p' fun h' he hit hsz hk => wpAny_pyIter_enum he ?_
      have I2 : Inv X pins σ H1 { s1 with heap := h' } := I1.kept (t' := s1.toks) hk
      exact ⟨s1.heap.objs.size + 1, [s1.heap.objs.size + 1, s1.heap.objs.size], _, _, H1, rfl, I2, turn_enumT a (s1.heap.objs.size + 1) s1.heap.objs.size, ⟨⟨.none, he⟩, hit, Nat.succ_ne_self _⟩, fun b hb => fin hb, q⟩
/-- over a list or a tuple, as the value is -/
theorem pi_val {X : L2.Cx} {tg l : Expr} {tl : TE} (hl : PE X l tl) : PI X tg l (fun σ H R => tl σ H fun x H1 => ∃ a, x = .ref a ∧ (((∃ xs, SqL X.K H1 a xs) ∧ R (Itl X.K a) H1) ∨ ((∃ xs, SqT X.K H1 a xs) ∧ R (Itt X.K a) H1))) := by
  refine ⟨fun pins s σ H R I h => ?_⟩
  refine thn (hl.run pins s σ H _ I h) fun v s1 ⟨x, H1, I1, r1, q1⟩ => ?_
  obtain ⟨a, e, q1⟩ := q1
  subst e
  cases r1
  rcases q1 with ⟨⟨xs, hq⟩, q⟩ | ⟨⟨xs, hq⟩, q⟩
  · obtain ⟨its, rv, p, hz⟩ := I1.list hq
    refine wpAny_pyIter_list p.isList ?_
    refine ⟨s1.heap.objs.size, [s1.heap.objs.size], _, _, H1, rfl, I1.kept (t' := s1.toks) fun b o e => Heap.get?_push_of_some _ e, turn_list a _, ⟨_, Heap.get?_push_size _ rfl, rfl, rfl⟩, fun b hb => ?_, q⟩
    have e : b = s1.heap.objs.size := by simpa using hb
    subst e
    exact I1.fpOk (Nat.le_refl _) (I1.hok.fresh (Nat.le_refl _))
  · obtain ⟨its, rv, p, hz⟩ := I1.tuple hq
    refine wpAny_pyIter_tuple (show s1.heap.IsTuple a its.toArray from p) ?_
    refine ⟨s1.heap.objs.size, [s1.heap.objs.size], _, _, H1, rfl, I1.kept (t' := s1.toks) fun b o e => Heap.get?_push_of_some _ e, turn_tuple a _, ⟨_, Heap.get?_push_size _ rfl, rfl, rfl⟩, fun b hb => ?_, q⟩
    have e : b = s1.heap.objs.size := by simpa using hb
    subst e
    exact I1.fpOk (Nat.le_refl _) (I1.hok.fresh (Nat.le_refl _))
/-! ### walks -/
section
variable {K : PySem.W.Frag} {φ φ2 : Ph} {H H2 : Hp} {st st2 : Lg.Store}
/-- a list or tuple that is walked, later on -/
theorem RepSt.later (rs : RepSt K φ H st) {v : V} {d : Lg.D} {ds : List Lg.D} (h : Rep K φ H v d) (e : Lg.seqOf st d = some ds) : ∃ a vs, v = .ref a ∧ ((Lg.isTup d = false ∧ SqL K H a vs ∧ ∀ φ2 H2 st2, GrowH φ H φ2 H2 → RepSt K φ2 H2 st2 → Lg.stays st2 (Lg.keepOf d ds) = true → ∃ us, SqL K H2 a us ∧ Reps K φ2 H2 us ds) ∨
    (Lg.isTup d = true ∧ SqT K H a vs ∧ ∀ φ2 H2 st2, GrowH φ H φ2 H2 → RepSt K φ2 H2 st2 → Lg.stays st2 (Lg.keepOf d ds) = true → ∃ us, SqT K H2 a us ∧ Reps K φ2 H2 us ds)) := by
  cases h with
  | tup h1 h2 =>
    simp only [Lg.seqOf, Option.some.injEq] at e
    subst e
    exact ⟨_, _, rfl, .inr ⟨rfl, h1.sq, fun φ2 H2 st2 g _ _ => ⟨_, (h1.grow g).sq, h2.grow g⟩⟩⟩
  | scr h1 h2 h3 =>
    simp only [Lg.seqOf, Lg.listOf, Option.some.injEq] at e
    subst e
    exact ⟨_, _, rfl, .inl ⟨rfl, .of h1, fun φ2 H2 st2 g _ _ => ⟨_, .of (g.fr _ _ h1 h2.1), h3.grow g⟩⟩⟩
  | fro h1 h2 =>
    simp only [Lg.seqOf, Lg.listOf, Option.some.injEq] at e
    subst e
    exact ⟨_, _, rfl, .inl ⟨rfl, h1.sq, fun φ2 H2 st2 g _ _ => ⟨_, (h1.grow g).sq, h2.grow g⟩⟩⟩
  | @ref l a h1 =>
    obtain ⟨a', vs, k1, k2, k3⟩ := rs.listOf (.ref h1) (show Lg.listOf st _ = some ds from e)
    cases k1
    refine ⟨_, vs, rfl, .inl ⟨rfl, k2, fun φ2 H2 st2 g rs2 hk => ?_⟩⟩
    simp only [Lg.keepOf, Lg.stays, List.all_cons, List.all_nil, Bool.and_true, decide_eq_true_eq] at hk
    obtain ⟨b, us, m1, m2, m3⟩ := rs2.cell l _ hk
    rw [g.get h1] at m1; cases m1
    exact ⟨us, .of m2, m3⟩
  | _ => simp [Lg.seqOf, Lg.listOf] at e
theorem itr_list {a : Addr} {ds : List Lg.D} {ks : List (Nat × List Lg.D)} (h : ∀ φ2 H2 st2, GrowH φ H φ2 H2 → RepSt K φ2 H2 st2 → Lg.stays st2 ks = true → ∃ us, SqL K H2 a us ∧ Reps K φ2 H2 us ds) : ItR K ⟨ds, ks⟩ (Itl K a) φ H := fun φ2 H2 st2 g rs hk => by
  obtain ⟨us, h1, h2⟩ := h φ2 H2 st2 g rs hk
  refine ⟨⟨us, h1, by rw [h2.length]; exact Nat.le_refl _⟩, fun i d e => ?_⟩
  obtain ⟨v, e1, e2⟩ := h2.get e
  refine ⟨⟨us, v, h1, e1⟩, fun x H3 ⟨eH, y⟩ => ?_⟩
  subst eH
  have := y us h1
  rw [e1] at this; cases this
  exact ⟨Grow.refl _ _, rs, e2⟩
theorem itr_tup {a : Addr} {ds : List Lg.D} {ks : List (Nat × List Lg.D)} (h : ∀ φ2 H2 st2, GrowH φ H φ2 H2 → RepSt K φ2 H2 st2 → Lg.stays st2 ks = true → ∃ us, SqT K H2 a us ∧ Reps K φ2 H2 us ds) : ItR K ⟨ds, ks⟩ (Itt K a) φ H := fun φ2 H2 st2 g rs hk => by
  obtain ⟨us, h1, h2⟩ := h φ2 H2 st2 g rs hk
  refine ⟨⟨us, h1, by rw [h2.length]; exact Nat.le_refl _⟩, fun i d e => ?_⟩
  obtain ⟨v, e1, e2⟩ := h2.get e
  refine ⟨⟨us, v, h1, e1⟩, fun x H3 ⟨eH, y⟩ => ?_⟩
  subst eH
  have := y us h1
  rw [e1] at this; cases this
  exact ⟨Grow.refl _ _, rs, e2⟩
/-- a new pair -/
theorem pair_new (rs : RepSt K φ H st) {T : Addr} (hT : H T = none) {x y : V} {dx dy : Lg.D} (hx : Rep K φ H x dx) (hy : Rep K φ H y dy) : Grow φ H φ (upd H T (.tup [x, y])) ∧ RepSt K φ (upd H T (.tup [x, y])) st ∧ Rep K φ (upd H T (.tup [x, y])) (.ref T) (.tup [dx, dy]) := by
  obtain ⟨g, rs'⟩ := rs.lay hT (.tup [x, y])
  exact ⟨g, rs', .tup (.inl ⟨upd_same, rs.out hT⟩) (.cons (hx.grow g) (.cons (hy.grow g) .nil))⟩
theorem enumFrom_get : ∀ (ds : List Lg.D) (k : Int) (i : Nat) (d : Lg.D), (Lg.enumFrom k ds)[i]? = some d → ∃ e, ds[i]? = some e ∧ d = .tup [.int (k + (i : Nat)), e]
  | [], _, _, _, h => by simp [Lg.enumFrom] at h
  | x :: r, k, 0, d, h => by
    simp [Lg.enumFrom] at h
    subst h
    exact ⟨x, rfl, by simp⟩
  | x :: r, k, i + 1, d, h => by
    simp only [Lg.enumFrom, List.getElem?_cons_succ] at h
    obtain ⟨e, h1, h2⟩ := enumFrom_get r (k + 1) i d h
    refine ⟨e, by simpa using h1, ?_⟩
    rw [h2]
    congr 3
    omega
theorem enumFrom_len : ∀ (ds : List Lg.D) (k : Int), (Lg.enumFrom k ds).length = ds.length
  | [], _ => rfl
  | x :: r, k => by simp [Lg.enumFrom, enumFrom_len r]
theorem itr_enum {a : Addr} {ds : List Lg.D} {ks : List (Nat × List Lg.D)} (h : ∀ φ2 H2 st2, GrowH φ H φ2 H2 → RepSt K φ2 H2 st2 → Lg.stays st2 ks = true → ∃ us, SqL K H2 a us ∧ Reps K φ2 H2 us ds) : ItR K ⟨Lg.enumFrom 0 ds, ks⟩ (Ite K a) φ H := fun φ2 H2 st2 g rs hk => by
  obtain ⟨us, h1, h2⟩ := h φ2 H2 st2 g rs hk
  refine ⟨⟨us, h1, by rw [h2.length, enumFrom_len]; exact Nat.le_refl _⟩, fun i d e => ?_⟩
  obtain ⟨e0, e1, e2⟩ := enumFrom_get ds 0 i d e
  obtain ⟨v, e3, e4⟩ := h2.get e1
  refine ⟨⟨us, v, h1, e3⟩, fun x H3 ⟨T, y, ex, hT, eH, hy⟩ => ?_⟩
  have := hy us h1
  rw [e3] at this; cases this
  subst ex eH e2
  rw [show (0 : Int) + ((i : Nat) : Int) = ((i : Nat) : Int) by omega]
  exact pair_new rs hT (.int _) e4
theorem itr_enumT {a : Addr} {ds : List Lg.D} {ks : List (Nat × List Lg.D)} (h : ∀ φ2 H2 st2, GrowH φ H φ2 H2 → RepSt K φ2 H2 st2 → Lg.stays st2 ks = true → ∃ us, SqT K H2 a us ∧ Reps K φ2 H2 us ds) : ItR K ⟨Lg.enumFrom 0 ds, ks⟩ (IteT K a) φ H := fun φ2 H2 st2 g rs hk => by
  obtain ⟨us, h1, h2⟩ := h φ2 H2 st2 g rs hk
  refine ⟨⟨us, h1, by rw [h2.length, enumFrom_len]⟩, fun i d e => ?_⟩
  obtain ⟨e0, e1, e2⟩ := enumFrom_get ds 0 i d e
  obtain ⟨v, e3, e4⟩ := h2.get e1
  refine ⟨⟨us, v, h1, e3⟩, fun x H3 ⟨T, y, ex, hT, eH, hy⟩ => ?_⟩
  have := hy us h1
  rw [e3] at this; cases this
  subst ex eH e2
  rw [show (0 : Int) + ((i : Nat) : Int) = ((i : Nat) : Int) by omega]
  exact pair_new rs hT (.int _) e4
theorem zip_get : ∀ (xs ys : List Lg.D) (i : Nat) (d : Lg.D), (Lg.zipD xs ys)[i]? = some d → ∃ x y, xs[i]? = some x ∧ ys[i]? = some y ∧ d = .tup [x, y]
  | [], _, _, _, h => by simp [Lg.zipD] at h
  | _ :: _, [], _, _, h => by simp [Lg.zipD] at h
  | x :: r, y :: s, 0, d, h => by
    simp [Lg.zipD] at h
    subst h
    exact ⟨x, y, rfl, rfl, rfl⟩
  | x :: r, y :: s, i + 1, d, h => by
    simp only [Lg.zipD, List.getElem?_cons_succ] at h
    obtain ⟨a, b, h1, h2, h3⟩ := zip_get r s i d h
    exact ⟨a, b, by simpa using h1, by simpa using h2, h3⟩
theorem zip_len : ∀ (xs ys : List Lg.D), (Lg.zipD xs ys).length = min xs.length ys.length
  | [], _ => by simp [Lg.zipD]
  | _ :: _, [] => by simp [Lg.zipD]
  | x :: r, y :: s => by
    simp only [Lg.zipD, List.length_cons, zip_len r s]
    omega
theorem stays_append {st : Lg.Store} {k1 k2 : List (Nat × List Lg.D)} (h : Lg.stays st (k1 ++ k2) = true) : Lg.stays st k1 = true ∧ Lg.stays st k2 = true := by
  unfold Lg.stays at h ⊢
  rw [List.all_append, Bool.and_eq_true] at h
  exact h
theorem itr_zip {a b : Addr} {ds es : List Lg.D} {k1 k2 : List (Nat × List Lg.D)} (h : ∀ φ2 H2 st2, GrowH φ H φ2 H2 → RepSt K φ2 H2 st2 → Lg.stays st2 k1 = true → ∃ us, SqL K H2 a us ∧ Reps K φ2 H2 us ds)
    (h' : ∀ φ2 H2 st2, GrowH φ H φ2 H2 → RepSt K φ2 H2 st2 → Lg.stays st2 k2 = true → ∃ us, SqL K H2 b us ∧ Reps K φ2 H2 us es) : ItR K ⟨Lg.zipD ds es, k1 ++ k2⟩ (Itz K a b) φ H := fun φ2 H2 st2 g rs hk => by
  obtain ⟨hk1, hk2⟩ := stays_append hk
  obtain ⟨us, h1, h2⟩ := h φ2 H2 st2 g rs hk1
  obtain ⟨ws, g1, g2⟩ := h' φ2 H2 st2 g rs hk2
  refine ⟨⟨us, ws, h1, g1, by rw [h2.length, g2.length, zip_len]; omega⟩, fun i d e => ?_⟩
  obtain ⟨x0, y0, e1, e2, e3⟩ := zip_get ds es i d e
  obtain ⟨v, e4, e5⟩ := h2.get e1
  obtain ⟨w, e6, e7⟩ := g2.get e2
  refine ⟨⟨us, ws, v, w, h1, g1, e4, e6⟩, fun x H3 ⟨T, p, q, ex, hT, eH, hp, hq⟩ => ?_⟩
  have z1 := hp us h1
  have z2 := hq ws g1
  rw [e4] at z1; cases z1
  rw [e6] at z2; cases z2
  subst ex eH e3
  exact pair_new rs hT e5 e7
theorem itr_zipT {a b : Addr} {ds es : List Lg.D} {k1 k2 : List (Nat × List Lg.D)} (h : ∀ φ2 H2 st2, GrowH φ H φ2 H2 → RepSt K φ2 H2 st2 → Lg.stays st2 k1 = true → ∃ us, SqT K H2 a us ∧ Reps K φ2 H2 us ds)
    (h' : ∀ φ2 H2 st2, GrowH φ H φ2 H2 → RepSt K φ2 H2 st2 → Lg.stays st2 k2 = true → ∃ us, SqT K H2 b us ∧ Reps K φ2 H2 us es) : ItR K ⟨Lg.zipD ds es, k1 ++ k2⟩ (RZ.ItzT K a b) φ H := fun φ2 H2 st2 g rs hk => by
  obtain ⟨hk1, hk2⟩ := stays_append hk
  obtain ⟨us, h1, h2⟩ := h φ2 H2 st2 g rs hk1
  obtain ⟨ws, g1, g2⟩ := h' φ2 H2 st2 g rs hk2
  refine ⟨⟨us, ws, h1, g1, by rw [h2.length, g2.length, zip_len]; omega⟩, fun i d e => ?_⟩
  obtain ⟨x0, y0, e1, e2, e3⟩ := zip_get ds es i d e
  obtain ⟨v, e4, e5⟩ := h2.get e1
  obtain ⟨w, e6, e7⟩ := g2.get e2
  refine ⟨⟨us, ws, v, w, h1, g1, e4, e6⟩, fun x H3 ⟨T, p, q, ex, hT, eH, hp, hq⟩ => ?_⟩
  have z1 := hp us h1
  have z2 := hq ws g1
  rw [e4] at z1; cases z1
  rw [e6] at z2; cases z2
  subst ex eH e3
  exact pair_new rs hT e5 e7
theorem rng_get : ∀ (n : Nat) (lo : Int) (i : Nat) (d : Lg.D), (Lg.rng lo n)[i]? = some d → i < n ∧ d = .int (lo + (i : Nat))
  | 0, _, _, _, h => by simp [Lg.rng] at h
  | n + 1, lo, 0, d, h => by simp [Lg.rng] at h; exact ⟨by omega, by rw [← h]; simp⟩
  | n + 1, lo, i + 1, d, h => by
    simp only [Lg.rng, List.getElem?_cons_succ] at h
    obtain ⟨h1, h2⟩ := rng_get n (lo + 1) i d h
    exact ⟨by omega, by rw [h2]; congr 1; omega⟩
theorem rng_len : ∀ (n : Nat) (lo : Int), (Lg.rng lo n).length = n
  | 0, _ => rfl
  | n + 1, lo => by simp [Lg.rng, rng_len n]
theorem itr_rng {lo : Int} {n : Nat} {ks : List (Nat × List Lg.D)} : ItR K ⟨Lg.rng lo n, ks⟩ (Itr lo n) φ H := fun φ2 H2 st2 g rs hk => by
  refine ⟨by show n ≤ _; rw [rng_len]; exact Nat.le_refl _, fun i d e => ?_⟩
  obtain ⟨h1, h2⟩ := rng_get n lo i d e
  refine ⟨h1, fun x H3 ⟨eH, ex⟩ => ?_⟩
  subst eH ex h2
  exact ⟨Grow.refl _ _, rs, .int _⟩
theorem rngC_get (c : Int) : ∀ (n : Nat) (lo : Int) (i : Nat) (d : Lg.D), (Lg.rngC lo c n)[i]? = some d → i < n ∧ d = .int (lo + (i : Nat) * c)
  | 0, _, _, _, h => by simp [Lg.rngC] at h
  | n + 1, lo, 0, d, h => by simp [Lg.rngC] at h; exact ⟨by omega, by rw [← h]; simp⟩
  | n + 1, lo, i + 1, d, h => by
    simp only [Lg.rngC, List.getElem?_cons_succ] at h
    obtain ⟨h1, h2⟩ := rngC_get c n (lo + c) i d h
    refine ⟨by omega, ?_⟩
    rw [h2]
    congr 1
    have : ((i + 1 : Nat) : Int) * c = (i : Int) * c + c := by
      rw [show ((i + 1 : Nat) : Int) = (i : Int) + 1 by omega, Int.add_mul, Int.one_mul]
    omega
theorem rngC_len (c : Int) : ∀ (n : Nat) (lo : Int), (Lg.rngC lo c n).length = n
  | 0, _ => rfl
  | n + 1, lo => by simp [Lg.rngC, rngC_len c n]
theorem itr_rngC {lo c : Int} {n : Nat} {ks : List (Nat × List Lg.D)} : ItR K ⟨Lg.rngC lo c n, ks⟩ (Itc lo c n) φ H := fun φ2 H2 st2 g rs hk => by
  refine ⟨by show n ≤ _; rw [rngC_len]; exact Nat.le_refl _, fun i d e => ?_⟩
  obtain ⟨h1, h2⟩ := rngC_get c n lo i d e
  refine ⟨h1, fun x H3 ⟨eH, ex⟩ => ?_⟩
  subst eH ex h2
  exact ⟨Grow.refl _ _, rs, .int _⟩
end
section
variable {X : L2.Cx} {cv : String → Value} {W : WX} {C : Lg.Cx} {a b c : Lg.E} {l r s : Expr} {pos p : Pos} {tg : Expr}
theorem si_seq (ha : PE X l (tE X.K cv W C a)) : PI X tg l (tI X.K cv W C (.seq a)) := (pi_val ha).to fun σ H R ⟨env, st, φ, re, rs, q⟩ => by
  simp only [Lg.evIt] at q
  refine tE.fst re rs q fun x dx st1 φ1 H1 g1 re1 rs1 rx q1 => ?_
  split at q1
  · rename_i xs e
    obtain ⟨ad, vs, ev, h | h⟩ := rs1.later rx e
    · exact ⟨ad, ev, .inl ⟨⟨vs, h.2.1⟩, q1.here rs1 _ (itr_list h.2.2)⟩⟩
    · exact ⟨ad, ev, .inr ⟨⟨vs, h.2.1⟩, q1.here rs1 _ (itr_tup h.2.2)⟩⟩
  · exact q1.elim
theorem si_enum {elts : List Expr} {kk : Nat} {tpos : Pos} (hg : Gl X "enumerate") (hm : X.mg "enumerate" = none) (hs : nstar l = true) (ha : PE X l (tE X.K cv W C a)) : PI X (.Tuple elts kk tpos) (.Call (.Name "enumerate" p) [l] [] pos) (tI X.K cv W C (.enum a)) :=
  (pi_enumA hg hm (pa_cons ha pa_nil (star_cons hs)) (star_cons hs)).to fun σ H R ⟨env, st, φ, re, rs, q⟩ => by
    simp only [Lg.evIt] at q
    refine tE.fst re rs q fun x dx st1 φ1 H1 g1 re1 rs1 rx q1 => ?_
    split at q1
    · rename_i xs e
      obtain ⟨ad, vs, ev, h | h⟩ := rs1.later rx e
      · exact ⟨ad, vs, by rw [ev], .inl ⟨h.2.1, q1.here rs1 _ (itr_enum h.2.2)⟩⟩
      · exact ⟨ad, vs, by rw [ev], .inr ⟨h.2.1, q1.here rs1 _ (itr_enumT h.2.2)⟩⟩
    · exact q1.elim
theorem rngOk_b {i j : Int} (h : Lg.rngOk i j = true) : -(2 ^ 62) ≤ i ∧ i < 2 ^ 62 ∧ -(2 ^ 62) ≤ j ∧ j < 2 ^ 62 := by
  unfold Lg.rngOk at h
  have h := Lg.chk_iff.mp h
  exact ⟨h.1, h.2.1, h.2.2.1, h.2.2.2.1⟩
theorem si_rng1 (hg : Gl X "range") (hm : X.mg "range" = none) (hs : nstar l = true) (ha : PE X l (tE X.K cv W C a)) : PI X tg (.Call (.Name "range" p) [l] [] pos) (tI X.K cv W C (.rng1 a)) :=
  (pi_range1 hg hm (pa_cons ha pa_nil (star_cons hs)) (star_cons hs)).to fun σ H R ⟨env, st, φ, re, rs, q⟩ => by
    simp only [Lg.evIt] at q
    refine tE.fst re rs q fun x dx st1 φ1 H1 g1 re1 rs1 rx q1 => ?_
    cases rx with
    | int j =>
      simp only at q1
      split at q1
      · rename_i hz
        obtain ⟨_, _, h1, h2⟩ := rngOk_b hz
        exact ⟨j, rfl, h1, h2, q1.here rs1 _ itr_rng⟩
      · exact q1.elim
    | _ => exact q1.elim
theorem si_rng2 (hg : Gl X "range") (hm : X.mg "range" = none) (hs : nstar l = true) (hs2 : nstar r = true) (ha : PE X l (tE X.K cv W C a)) (hb : PE X r (tE X.K cv W C b)) : PI X tg (.Call (.Name "range" p) [l, r] [] pos) (tI X.K cv W C (.rng2 a b)) :=
  (pi_range2 hg hm (pa_cons ha (pa_cons hb pa_nil (star_cons hs2)) (star_cons hs)) (by rw [star_cons hs, star_cons hs2]; rfl) (star_cons hs2)).to fun σ H R ⟨env, st, φ, re, rs, q⟩ => by
    simp only [Lg.evIt] at q
    refine tE.fst re rs q fun x dx st1 φ1 H1 g1 re1 rs1 rx q1 => tE.fst re1 rs1 q1 fun y dy st2 φ2 H2 g2 re2 rs2 ry q2 => ?_
    cases rx <;> cases ry <;> first
      | exact q2.elim
      | (simp only at q2
         split at q2
         · rename_i hz
           exact ⟨_, _, rfl, rngOk_b hz, q2.here rs2 _ itr_rng⟩
         · exact q2.elim)
theorem si_rng3 (hg : Gl X "range") (hm : X.mg "range" = none) (hs : nstar l = true) (hs2 : nstar r = true) (hs3 : nstar s = true) (ha : PE X l (tE X.K cv W C a)) (hb : PE X r (tE X.K cv W C b)) (hc : PE X s (tE X.K cv W C c)) : PI X tg (.Call (.Name "range" p) [l, r, s] [] pos) (tI X.K cv W C (.rng3 a b c)) :=
  (pi_range3 hg hm (pa_cons ha (pa_cons hb (pa_cons hc pa_nil (star_cons hs3)) (star_cons hs2)) (star_cons hs)) (by rw [star_cons hs]) (star_any (es := [r, s]) (by simp [hs2, hs3]))).to fun σ H R ⟨env, st, φ, re, rs, q⟩ => by
    simp only [Lg.evIt] at q
    refine tE.fst re rs q fun x dx st1 φ1 H1 g1 re1 rs1 rx q1 => tE.fst re1 rs1 q1 fun y dy st2 φ2 H2 g2 re2 rs2 ry q2 => tE.fst re2 rs2 q2 fun z dz st3 φ3 H3 g3 re3 rs3 rz q3 => ?_
    cases rx <;> cases ry <;> cases rz <;> first
      | exact q3.elim
      | (simp only at q3
         split at q3
         · rename_i hz
           obtain ⟨hc, hz⟩ := hz
           obtain ⟨b1, b2, b3, b4⟩ := rngOk_b hz
           exact ⟨_, _, _, _, rfl, by rw [hc]; exact RgC.neg b3 b4 b1 b2, q3.here rs3 _ itr_rngC⟩
         · exact q3.elim)
theorem si_zip {elts : List Expr} {kk : Nat} {tpos : Pos} (hg : Gl X "zip") (hm : X.mg "zip" = none) (hs : nstar l = true) (hs2 : nstar r = true) (ha : PE X l (tE X.K cv W C a)) (hb : PE X r (tE X.K cv W C b)) : PI X (.Tuple elts kk tpos) (.Call (.Name "zip" p) [l, r] [] pos) (tI X.K cv W C (.zip a b)) :=
  (RZ.pi_zipA hg hm (pa_cons ha (pa_cons hb pa_nil (star_cons hs2)) (star_cons hs)) (star_cons hs) (star_any (es := [r]) (by simp [hs2]))).to fun σ H R ⟨env, st, φ, re, rs, q⟩ => by
    simp only [Lg.evIt] at q
    refine tE.fst re rs q fun x dx st1 φ1 H1 g1 re1 rs1 rx q1 => tE.fst re1 rs1 q1 fun y dy st2 φ2 H2 g2 re2 rs2 ry q2 => ?_
    split at q2
    · rename_i xs ys e1 e2
      split at q2
      · rename_i hk
        obtain ⟨ad, vs, ev, h | h⟩ := rs2.later (rx.grow g2) e1 <;> obtain ⟨bd, ws, ew, h' | h'⟩ := rs2.later ry e2
        · exact ⟨ad, bd, vs, ws, by rw [ev, ew], .inl ⟨h.2.1, h'.2.1, q2.here rs2 _ (itr_zip h.2.2 h'.2.2)⟩⟩
        · rw [h.1, h'.1] at hk; exact absurd hk (by decide)
        · rw [h.1, h'.1] at hk; exact absurd hk (by decide)
        · exact ⟨ad, bd, vs, ws, by rw [ev, ew], .inr ⟨h.2.1, h'.2.1, q2.here rs2 _ (itr_zipT h.2.2 h'.2.2)⟩⟩
      · exact q2.elim
    · exact q2.elim
end
end So
namespace So
open PySem PySem.Spec PyProof.Rows L2
/-! ### noexc -/
section
variable {K : PySem.W.Frag} {cv : String → Value} {W W' : WX} {σ σ' : L2.St} {φ : Ph} {H : Hp} {α β : Type}
theorem noexc_bind (r : Lg.Out α) (f : α → Lg.Store → Lg.Out β) : Lg.noexc (r.bind f) = (Lg.noexc r).bind fun a st => Lg.noexc (f a st) := by
  cases r <;> rfl
theorem Pst.noexc {r : Lg.Out α} {k : α → Lg.Store → Ph → Hp → Prop} (h : Pst K cv W σ φ H (Lg.noexc r) k) : ∃ a st, r = .ok a st ∧ ∀ φ' H', Grow φ H φ' H' → RepSt K φ' H' st → k a st φ' H' := by
  cases r with
  | ok a st => exact ⟨a, st, rfl, h⟩
  | exc c st => exact h.elim
  | bad => exact h.elim
theorem Pst.of_noexc {r : Lg.Out α} {k : α → Lg.Store → Ph → Hp → Prop} (h : Pst K cv W σ φ H (Lg.noexc r) k) : Pst K cv W' σ' φ H r k := by
  obtain ⟨a, st, rfl, h⟩ := h.noexc
  exact h
theorem Pst.noexc_to {r : Lg.Out α} {k : α → Lg.Store → Ph → Hp → Prop} (h : Pst K cv W σ φ H (Lg.noexc r) k) : Pst K cv W' σ' φ H (Lg.noexc r) k := by
  obtain ⟨a, st, rfl, h⟩ := h.noexc
  exact h
theorem Pst.ok {a : α} {st : Lg.Store} {k : α → Lg.Store → Ph → Hp → Prop} (h : ∀ φ' H', Grow φ H φ' H' → RepSt K φ' H' st → k a st φ' H') : Pst K cv W σ φ H (.ok a st) k := h
end
/-! ### targets -/
section
variable {X : L2.Cx} {cv : String → Value} {W : WX} {C : Lg.Cx} {a b : Lg.E} {l r : Expr} {pos : Pos}
theorem PG.or {e : Expr} {g g' : TG} (h : PG X e g) (h' : PG X e g') : PG X e (fun v σ H Q => g v σ H Q ∨ g' v σ H Q) := ⟨fun pins s σ H v u Q I r q => by
  rcases q with q | q
  · exact h.run pins s σ H v u Q I r q
  · exact h'.run pins s σ H v u Q I r q⟩
theorem sg_nm {i : Nat} {x : Str} (hN : X.N.Nodup) (hi : X.N[i]? = some x) (hx : Loc X.env.scope x) (hf : X.fn x = true ∨ X.env.scope.names.lookup x = some .local) : PG X (.Name x pos) (tG X.K cv W C (.nm i)) :=
  (pg_name hN hi hx hf).to fun v σ H Q ⟨d, env, st, φ, rv, re, rs, q⟩ => by
    simp only [Lg.asg, Lg.noexc] at q
    exact q.here rs _ (re.set rv i) fun j hj => by
      simp only [slots, List.mem_singleton] at hj
      rw [List.getElem?_set_ne (Ne.symm hj)]
theorem sg_nil : PGs X [] (tGs X.K cv W C .nil) := pgs_nil.to fun vs σ H Q ⟨ds, env, st, φ, rv, re, rs, q⟩ => by
  cases rv with
  | nil =>
    simp only [Lg.asgs, Lg.noexc] at q
    exact ⟨rfl, q.here rs σ re fun _ _ => rfl⟩
  | cons _ _ => exact q.elim
theorem asg_each {e : Expr} {es : List Expr} {env : PySem.Env} (h : nstar e = true) : assignEach (e :: es) env = (false, assign e env) :: assignEach es env := by
  cases e <;> first | rfl | cases h
theorem asg_len {env : PySem.Env} : ∀ {es : List Expr}, es.all nstar = true → (assignEach es env).length = es.length ∧ (assignEach es env).findIdx? (·.1) = none
  | [], _ => ⟨rfl, rfl⟩
  | e :: es, h => by
    rw [List.all_cons, Bool.and_eq_true] at h
    obtain ⟨h1, h2⟩ := asg_len (env := env) h.2
    rw [asg_each h.1]
    refine ⟨by simp [h1], ?_⟩
    rw [List.findIdx?_cons]
    simp [h2]
theorem sg_cons {t : Lg.Tg} {ts : Lg.Tgs} {e : Expr} {es : List Expr} (hs : nstar e = true) (h1 : PG X e (tG X.K cv W C t)) (h2 : PGs X es (tGs X.K cv W C ts)) : PGs X (e :: es) (tGs X.K cv W C (.cons t ts)) :=
  (pgs_cons h1 h2 (by rw [asg_each hs]; rfl)).to fun vs σ H Q ⟨ds, env, st, φ, rv, re, rs, q⟩ => by
    cases rv with
    | nil => exact q.elim
    | @cons v vs d ds a r =>
      simp only [Lg.asgs, noexc_bind] at q
      refine ⟨v, vs, rfl, d, env, st, φ, a, re, rs, q.bind.imp fun env1 st1 φ1 H1 g1 rs1 q1 σ1 re1 out1 => ?_⟩
      refine ⟨ds, env1, st1, φ1, r.grow g1, re1, rs1, (Pst.noexc_to q1).imp fun env2 st2 φ2 H2 g2 rs2 k σ2 re2 out2 => ?_⟩
      exact k σ2 re2 fun j hj => by
        simp only [slots, slotss, List.mem_append, not_or] at hj
        rw [out2 j hj.2, out1 j hj.1]
def tgsLen : Lg.Tgs → Nat
  | .nil => 0
  | .cons _ ts => tgsLen ts + 1
theorem asgs_len : ∀ {ts : Lg.Tgs} {xs : List Lg.D} {env : Lg.Env} {st : Lg.Store} {env' : Lg.Env} {st' : Lg.Store}, Lg.asgs C ts xs env st = .ok env' st' → xs.length = tgsLen ts
  | .nil, [], _, _, _, _, _ => rfl
  | .nil, _ :: _, _, _, _, _, h => by simp [Lg.asgs] at h
  | .cons _ _, [], _, _, _, _, h => by simp [Lg.asgs] at h
  | .cons t ts, x :: xs, env, st, _, _, h => by
    simp only [Lg.asgs] at h
    cases e : Lg.asg C t x env st with
    | ok env1 st1 =>
      rw [e] at h
      simp only [Lg.bind_ok] at h
      simp [tgsLen, asgs_len h]
    | exc _ _ => rw [e] at h; cases h
    | bad => rw [e] at h; cases h
theorem sg_tp {ts : Lg.Tgs} {es : List Expr} {k : Nat} (hc : X.calm = true) (hs : es.all nstar = true) (hl : es.length = tgsLen ts) (h : PGs X es (tGs X.K cv W C ts)) : PG X (.Tuple es k pos) (tG X.K cv W C (.tp ts)) :=
  (PG.or (pg_tup (n := es.length) hc h (asg_len hs).1 (asg_len hs).2) (pg_lst (n := es.length) hc h (asg_len hs).1 (asg_len hs).2)).to fun v σ H Q ⟨d, env, st, φ, rv, re, rs, q⟩ => by
    simp only [Lg.asg] at q
    split at q
    · rename_i xs e
      obtain ⟨env', st', e2, _⟩ := q.noexc
      have hlen := asgs_len e2
      obtain ⟨ad, vs, ev, h2, h3⟩ := rs.seqOf rv e
      have hv : vs.length = es.length := by rw [h3.length, hlen, hl]
      rcases h2 with h2 | h2
      · exact .inr ⟨ad, vs, ev, h2, hv, xs, env, st, φ, h3, re, rs, q⟩
      · exact .inl ⟨ad, vs, ev, h2, hv, xs, env, st, φ, h3, re, rs, q⟩
    · exact q.elim
theorem sg_ix (hs : noSlice r = true) (ha : PE X l (tE X.K cv W C a)) (hb : PE X r (tE X.K cv W C b)) : PG X (.Subscript l r pos) (tG X.K cv W C (.ix a b)) :=
  (pg_sub ha hb set_list (fun v => by cases r <;> first | rfl | cases hs)).to fun v σ H Q ⟨d, env, st, φ, rv, re, rs, q⟩ => by
    simp only [Lg.asg] at q
    have q := Pst.of_noexc (W' := W) (σ' := σ) q
    refine tE.fst re rs q fun x dx st1 φ1 H1 g1 re1 rs1 rx q1 => tE.fst re1 rs1 q1 fun y dy st2 φ2 H2 g2 re2 rs2 ry q2 => ?_
    exact set_read rs2 (rx.grow g2) ry ((rv.grow (Grow.h g1)).grow (Grow.h g2)) (q2.bind.imp fun _ st3 φ3 H3 g3 rs3 q3 => q3.here rs3 σ (re2.grow g3) fun _ _ => rfl)
end
/-! ### comprehensions -/
theorem wipe_get {α : Type} (σ : List (Option α)) (f : List (Option α) → List Nat → List (Option α)) (h0 : ∀ s, f s [] = s) (h1 : ∀ s v vs, f s (v :: vs) = (f s vs).set v none) (hl : ∀ s vs, (f s vs).length = s.length) :
    ∀ (vs : List Nat) (j : Nat), (f σ vs)[j]? = if j ∈ vs then (σ[j]?).map fun _ => none else σ[j]?
  | [], j => by rw [h0]; simp
  | v :: vs, j => by
    rw [h1]
    have ih := wipe_get σ f h0 h1 hl vs j
    by_cases hj : v = j
    · subst hj
      rw [if_pos List.mem_cons_self]
      by_cases hb : v < σ.length
      · rw [List.getElem?_set_self (by rw [hl]; exact hb), List.getElem?_eq_getElem hb]; rfl
      · rw [List.getElem?_eq_none (by simp [hl]; omega), List.getElem?_eq_none (by omega)]; rfl
    · rw [List.getElem?_set_ne hj, ih]
      have e : (j ∈ v :: vs) = (j ∈ vs) := by simp [Ne.symm hj]
      simp only [e]
theorem wipe_same {σ σ' : L2.St} {own is : List Nat} (hl : σ'.length = σ.length) (hs : ∀ j ∈ is, j ∈ own) (h : ∀ j, j ∉ is → σ'[j]? = (L2.wipe σ own)[j]?) : L2.wipe σ' own = L2.wipe σ own := by
  have gw : ∀ (s : L2.St) (j : Nat), (L2.wipe s own)[j]? = if j ∈ own then (s[j]?).map fun _ => none else s[j]? := fun s j => wipe_get s L2.wipe (fun _ => rfl) (fun _ _ _ => rfl) (fun s vs => L2.wipe_length s vs) own j
  apply List.ext_getElem?
  intro j
  rw [gw, gw]
  by_cases hj : j ∈ own
  · rw [if_pos hj, if_pos hj]
    by_cases hb : j < σ.length
    · rw [List.getElem?_eq_getElem hb, List.getElem?_eq_getElem (by omega)]; rfl
    · rw [List.getElem?_eq_none (by omega), List.getElem?_eq_none (by omega)]
  · rw [if_neg hj, if_neg hj, h j fun z => hj (hs j z), gw, if_neg hj]
section
variable {K : PySem.W.Frag} {cv : String → Value} {W : WX} {σ : L2.St} {φ : Ph} {H : Hp} {α : Type} {ks : List (Nat × List Lg.D)} {turn : Lg.D → Lg.Store → Lg.Out (Option Lg.D)} {f : List Lg.D → Lg.Store → Lg.Out α} {k : α → Lg.Store → Ph → Hp → Prop}
theorem compL_nil {acc : List Lg.D} {st : Lg.Store} (q : Pst K cv W σ φ H ((Lg.noexc (Lg.compL ks turn [] acc st)).bind f) k) : Lg.stays st ks = true ∧ Pst K cv W σ φ H (f acc st) k := by
  simp only [Lg.compL] at q
  split at q
  · rename_i h; exact ⟨h, q⟩
  · exact q.elim
theorem compL_cons {x : Lg.D} {r acc : List Lg.D} {st : Lg.Store} (q : Pst K cv W σ φ H ((Lg.noexc (Lg.compL ks turn (x :: r) acc st)).bind f) k) : Lg.stays st ks = true ∧ ∃ o st', turn x st = .ok o st' ∧ (match o with
    | some y => acc.length < Lg.sizeLine ∧ Pst K cv W σ φ H ((Lg.noexc (Lg.compL ks turn r (acc ++ [y]) st')).bind f) k
    | none => Pst K cv W σ φ H ((Lg.noexc (Lg.compL ks turn r acc st')).bind f) k) := by
  simp only [Lg.compL] at q
  split at q
  · rename_i h
    refine ⟨h, ?_⟩
    cases e : turn x st with
    | ok o st' =>
      rw [e] at q
      refine ⟨o, st', rfl, ?_⟩
      cases o with
      | some y =>
        simp only [Lg.bind_ok] at q
        split at q
        · rename_i hz; exact ⟨hz, q⟩
        · exact q.elim
      | none => exact q
    | exc _ _ => rw [e] at q; exact q.elim
    | bad => rw [e] at q; exact q.elim
  · exact q.elim
end
mutual
theorem asg_envlen {C : Lg.Cx} : ∀ {t : Lg.Tg} {x : Lg.D} {env : Lg.Env} {st : Lg.Store} {env' : Lg.Env} {st' : Lg.Store}, Lg.asg C t x env st = .ok env' st' → env'.length = env.length
  | .nm i, x, env, st, _, _, h => by
    simp only [Lg.asg] at h; cases h; simp
  | .tp ts, x, env, st, _, _, h => by
    simp only [Lg.asg] at h
    split at h
    · exact asgs_envlen h
    · cases h
  | .ix a i, x, env, st, _, _, h => by
    simp only [Lg.asg] at h
    cases e1 : Lg.ev C a env st with
    | ok x1 st1 =>
      rw [e1] at h; simp only [Lg.bind_ok] at h
      cases e2 : Lg.ev C i env st1 with
      | ok y st2 =>
        rw [e2] at h; simp only [Lg.bind_ok] at h
        cases e3 : Lg.setIx x1 y x st2 with
        | ok z st3 => rw [e3] at h; cases h; rfl
        | exc _ _ => rw [e3] at h; cases h
        | bad => rw [e3] at h; cases h
      | exc _ _ => rw [e2] at h; cases h
      | bad => rw [e2] at h; cases h
    | exc _ _ => rw [e1] at h; cases h
    | bad => rw [e1] at h; cases h
theorem asgs_envlen {C : Lg.Cx} : ∀ {ts : Lg.Tgs} {xs : List Lg.D} {env : Lg.Env} {st : Lg.Store} {env' : Lg.Env} {st' : Lg.Store}, Lg.asgs C ts xs env st = .ok env' st' → env'.length = env.length
  | .nil, [], _, _, _, _, h => by simp only [Lg.asgs] at h; cases h; rfl
  | .nil, _ :: _, _, _, _, _, h => by simp [Lg.asgs] at h
  | .cons _ _, [], _, _, _, _, h => by simp [Lg.asgs] at h
  | .cons t ts, x :: xs, env, st, _, _, h => by
    simp only [Lg.asgs] at h
    cases e : Lg.asg C t x env st with
    | ok env1 st1 =>
      rw [e] at h
      simp only [Lg.bind_ok] at h
      rw [asgs_envlen h, asg_envlen e]
    | exc _ _ => rw [e] at h; cases h
    | bad => rw [e] at h; cases h
end
abbrev WF : WX := fun _ _ _ _ => False
section
variable {X : L2.Cx} {cv : String → Value} {W : WX} {C : Lg.Cx} {pos : Pos}
theorem sc_none : PTs X [] (tCo X.K cv W C .none) := pts_nil.to fun σ H Q ⟨env, st, φ, re, rs, q⟩ => q.here rs
theorem sc_some {a : Lg.E} {l : Expr} (ha : PT X l (tT X.K cv W C a)) : PTs X [l] (tCo X.K cv W C (.some a)) := (pts_one ha).to fun σ H Q ⟨env, st, φ, re, rs, q⟩ => ⟨env, st, φ, re, rs, q⟩
/-- a turn of a comprehension -/
noncomputable def turnOf (C : Lg.Cx) (own : List Nat) (elt : Lg.E) (tg : Lg.Tg) (c : Lg.Eo) (env : Lg.Env) : Lg.D → Lg.Store → Lg.Out (Option Lg.D) := fun x st2 => (Lg.asg C tg x (Lg.wipe env own) st2).bind fun env3 st3 => (Lg.evc C c env3 st3).bind fun b st4 =>
  if b then (Lg.ev C elt env3 st4).bind fun y st5 => .ok (some y) st5 else .ok none st4
structure CI (K : PySem.W.Frag) (φ1 : Ph) (H1 : Hp) (D : Addr) (φ' : Ph) (H' : Hp) (acc : List Lg.D) (vs : List V) (st' : Lg.Store) : Prop where
  g : GrowH φ1 H1 φ' H'
  hd : φ'.hd = D :: φ1.hd
  rs : RepSt K φ' H' st'
  eD : H' D = some (.lst vs)
  rv : Reps K φ' H' vs acc
theorem turn_ok {own : List Nat} {elt : Lg.E} {tg : Lg.Tg} {c : Lg.Eo} {env : Lg.Env} {x : Lg.D} {st st' : Lg.Store} {o : Option Lg.D} (h : turnOf C own elt tg c env x st = .ok o st') : ∃ env3 st3 b st4, Lg.asg C tg x (Lg.wipe env own) st = .ok env3 st3 ∧ Lg.evc C c env3 st3 = .ok b st4 ∧
    ((b = true ∧ ∃ y, Lg.ev C elt env3 st4 = .ok y st' ∧ o = some y) ∨ (b = false ∧ st4 = st' ∧ o = none)) := by
  unfold turnOf at h
  cases e1 : Lg.asg C tg x (Lg.wipe env own) st with
  | ok env3 st3 =>
    rw [e1] at h; simp only [Lg.bind_ok] at h
    cases e2 : Lg.evc C c env3 st3 with
    | ok b st4 =>
      rw [e2] at h; simp only [Lg.bind_ok] at h
      refine ⟨env3, st3, b, st4, rfl, e2, ?_⟩
      cases b with
      | true =>
        simp only [if_true] at h
        cases e3 : Lg.ev C elt env3 st4 with
        | ok y st5 => rw [e3] at h; cases h; exact .inl ⟨rfl, y, rfl, rfl⟩
        | exc _ _ => rw [e3] at h; cases h
        | bad => rw [e3] at h; cases h
      | false => simp only [Bool.false_eq_true, if_false] at h; cases h; exact .inr ⟨rfl, rfl, rfl⟩
    | exc _ _ => rw [e2] at h; cases h
    | bad => rw [e2] at h; cases h
  | exc _ _ => rw [e1] at h; cases h
  | bad => rw [e1] at h; cases h
/-- the reading of a comprehension -/
theorem comp_read {m : Bool} {own : List Nat} {elt : Lg.E} {tg : Lg.Tg} {it : Lg.It} {c : Lg.Eo} (hsl : ∀ j ∈ slots tg, j ∈ own) {σ : L2.St} {H : Hp} {Q : VK}
    (h : tE X.K cv W C (.comp m own elt tg it c) σ H Q) : tLc (tI X.K cv W C it) (tG X.K cv WF C tg) (tCo X.K cv WF C c) (tE X.K cv WF C elt) own σ H Q := by
  obtain ⟨env, st, φ, re, rs, q⟩ := h
  simp only [Lg.ev] at q
  refine ⟨env, st, φ, re, rs, q.bind.imp fun w st1 φ1 H1 g1 rs1 q1 J hJ D hD => ?_⟩
  have re1 := re.grow (Grow.h g1)
  have oD := rs1.out hD
  refine ⟨fun i mm H' => mm = w.items.length - i ∧ i ≤ w.items.length ∧ ∃ (φ' : Ph) (acc : List Lg.D) (vs : List V) (st' : Lg.Store), CI X.K φ1 H1 D φ' H' acc vs st' ∧
      Pst X.K cv W σ φ1 H1 ((Lg.noexc (Lg.compL w.keep (turnOf C own elt tg c env) (w.items.drop i) acc st')).bind fun ys st2 => Lg.newList m ys st2) (kQ X.K Q), ⟨w.items.length, ?_⟩, ?_⟩
  · obtain ⟨g, _⟩ := rs1.lay hD (.lst [])
    refine ⟨by simp, Nat.zero_le _, φ1.hide D, [], [], st1, ⟨⟨List.prefix_refl _, fun b hb => ?_, fun _ h => .inl h, g.fr⟩, rfl, rs1.hide hD _, upd_same, .nil⟩, q1⟩
    rcases List.mem_cons.mp hb with z | z
    · subst z; exact .inr hD
    · exact .inl z
  · rintro i mm H' ⟨rfl, hi, φ', acc, vs, st', ci, q'⟩
    obtain ⟨cs, hd⟩ := φ'
    have ehd : hd = D :: φ1.hd := ci.hd
    subst ehd
    by_cases hlt : i < w.items.length
    · -- a turn
      right
      rw [List.drop_eq_getElem_cons hlt] at q'
      obtain ⟨hk, o, st2, et, q2⟩ := compL_cons q'
      obtain ⟨_, hit⟩ := hJ _ H' st' ci.g ci.rs hk
      obtain ⟨go, yl⟩ := hit i _ (List.getElem?_eq_getElem hlt)
      obtain ⟨env3, st3, b, st4, e1, e2, e3⟩ := turn_ok et
      refine ⟨go, fun H2 => ∃ (φ' : Ph) (acc : List Lg.D) (vs : List V) (st' : Lg.Store), CI X.K φ1 H1 D φ' H2 acc vs st' ∧
        Pst X.K cv W σ φ1 H1 ((Lg.noexc (Lg.compL w.keep (turnOf C own elt tg c env) (w.items.drop (i + 1)) acc st')).bind fun ys st2 => Lg.newList m ys st2) (kQ X.K Q), fun H2 h2 => ⟨w.items.length - (i + 1), by omega, rfl, hlt, h2⟩, fun x H3 y => ?_⟩
      obtain ⟨g3, rs3, rx⟩ := yl x H3 y
      have ci3 : CI X.K φ1 H1 D _ H3 acc vs st' := ⟨ci.g.then g3, rfl, rs3, g3.fr _ _ ci.eD (ci.rs.hid D List.mem_cons_self).1, ci.rv.grow (Grow.h g3)⟩
      have rew : REnv X.K _ H3 (L2.wipe σ own) (Lg.wipe env own) := ((re1.grow ci.g).grow (Grow.h g3)).wipe own
      refine ⟨_, _, st', _, rx, rew, rs3, ?_⟩
      rw [e1]
      intro φ4 H4 g4 rs4 σ4 re4 out4
      have lenσ : σ4.length = σ.length := by
        have l1 := re4.len
        have l2 : env3.length = (Lg.wipe env own).length := by
          exact asg_envlen e1
        rw [← l1, l2, rew.len, L2.wipe_length]
      refine ⟨wipe_same lenσ hsl out4, env3, st3, φ4, re4, rs4, ?_⟩
      rw [e2]
      intro φ5 H5 g5 rs5
      have ci5 : CI X.K φ1 H1 D φ5 H5 acc vs st4 := ⟨(ci3.g.then g4).then g5, (g5.hid.trans g4.hid), rs5, g5.fr _ _ (g4.fr _ _ ci3.eD (rs3.hid D List.mem_cons_self).1) (rs4.hid D (by rw [g4.hid]; exact List.mem_cons_self)).1, (ci3.rv.grow (Grow.h g4)).grow (Grow.h g5)⟩
      rcases e3 with ⟨hb, y, e3, eo⟩ | ⟨hb, es, eo⟩
      · subst hb eo
        simp only [if_true]
        refine ⟨env3, st4, φ5, re4.grow (Grow.h g5), rs5, ?_⟩
        rw [e3]
        intro φ6 H6 g6 rs6 yv ry
        have hD6 : D ∈ φ6.hd := by rw [g6.hid, ci5.hd]; exact List.mem_cons_self
        have eD6 : H6 D = some (.lst vs) := g6.fr _ _ ci5.eD (ci5.rs.hid D (by rw [ci5.hd]; exact List.mem_cons_self)).1
        have hc6 := (rs6.hid D hD6).1
        refine ⟨vs, eD6, by rw [(ci5.rv.grow (Grow.h g6)).length, ← size_eq]; exact q2.1, φ6, acc ++ [y], vs ++ [yv], st2, ⟨?_, by rw [g6.hid, ci5.hd], rs6.hidw hD6 _, upd_same, ?_⟩, q2.2⟩
        · have gg := ci5.g.then g6
          refine ⟨gg.pre, gg.hid, gg.new, fun b o eb hb => ?_⟩
          rw [upd_ne fun z => by subst z; rw [hD] at eb; cases eb]
          exact gg.fr b o eb hb
        · exact ((ci5.rv.grow (Grow.h g6)).append (.cons ry .nil)).hid hc6 hD6 _
      · subst hb eo es
        simp only [Bool.false_eq_true, if_false]
        exact ⟨φ5, acc, vs, st4, ci5, q2⟩
    · -- the end
      left
      have hi' : i = w.items.length := by omega
      subst hi'
      rw [List.drop_length] at q'
      obtain ⟨hk, q2⟩ := compL_nil q'
      obtain ⟨stop, _⟩ := hJ _ H' st' ci.g ci.rs hk
      refine ⟨stop, ?_⟩
      have hcD := (ci.rs.hid D List.mem_cons_self).1
      cases m with
      | false =>
        have gu : Grow φ1 H1 ⟨cs, φ1.hd⟩ H' := ⟨ci.g.pre, rfl, ci.g.new, ci.g.fr⟩
        exact q2 _ _ gu (RepSt.unhide (φ := ⟨cs, φ1.hd⟩) (D := D) ci.rs) _ (.scr ci.eD ⟨hcD, oD.2⟩ (Reps.unhide (φ := ⟨cs, φ1.hd⟩) (D := D) ci.rv))
      | true =>
        have ga : Grow φ1 H1 (Ph.snoc ⟨cs, φ1.hd⟩ D) H' := ⟨ci.g.pre.trans (List.prefix_append _ _), rfl, fun b hb => by
          rcases List.mem_append.mp hb with z | z
          · exact ci.g.new b z
          · rw [List.mem_singleton.mp z]; exact .inr hD, ci.g.fr⟩
        refine q2 _ _ ga (RepSt.adopt (φ := ⟨cs, φ1.hd⟩) ci.rs oD.2 ci.eD ci.rv) _ (.ref ?_)
        show (cs ++ [D])[st'.length]? = some D
        have hl : cs.length = st'.length := ci.rs.len
        rw [List.getElem?_append_right (by rw [hl]; exact Nat.le_refl _), hl]
        simp
/-- what is left of a comprehension out of which an exception may go -/
noncomputable def turnX (C : Lg.Cx) (own : List Nat) (elt : Lg.E) (tg : Lg.Tg) (c : Lg.Eo) (env : Lg.Env) : Lg.D → Lg.Store → Lg.Out (Option Lg.D) := fun x st2 => (Lg.noexc (Lg.asg C tg x (Lg.wipe env own) st2)).bind fun env3 st3 => (Lg.evc C c env3 st3).bind fun b st4 =>
  if b then (Lg.ev C elt env3 st4).bind fun y st5 => .ok (some y) st5 else .ok none st4
section
variable {K : PySem.W.Frag} {cv : String → Value} {W : WX} {σ : L2.St} {φ : Ph} {H : Hp} {α : Type} {ks : List (Nat × List Lg.D)} {turn : Lg.D → Lg.Store → Lg.Out (Option Lg.D)} {f : List Lg.D → Lg.Store → Lg.Out α} {k : α → Lg.Store → Ph → Hp → Prop}
theorem compX_nil {acc : List Lg.D} {st : Lg.Store} (q : Pst K cv W σ φ H ((Lg.compL ks turn [] acc st).bind f) k) : Lg.stays st ks = true ∧ Pst K cv W σ φ H (f acc st) k := by
  simp only [Lg.compL] at q
  split at q
  · rename_i h; exact ⟨h, q⟩
  · exact q.elim
theorem compX_cons {x : Lg.D} {r acc : List Lg.D} {st : Lg.Store} (q : Pst K cv W σ φ H ((Lg.compL ks turn (x :: r) acc st).bind f) k) : Lg.stays st ks = true ∧ (match turn x st with
    | .ok (some y) st' => acc.length < Lg.sizeLine ∧ Pst K cv W σ φ H ((Lg.compL ks turn r (acc ++ [y]) st').bind f) k
    | .ok none st' => Pst K cv W σ φ H ((Lg.compL ks turn r acc st').bind f) k
    | .exc cc st' => ∀ φ' H', Grow φ H φ' H' → RepSt K φ' H' st' → W (cv cc) none σ H'
    | .bad => False) := by
  simp only [Lg.compL] at q
  split at q
  · rename_i h
    refine ⟨h, ?_⟩
    cases e : turn x st with
    | ok o st' =>
      rw [e] at q
      cases o with
      | none => exact q
      | some y =>
        simp only [Lg.bind_ok] at q
        split at q
        · rename_i h2; exact ⟨h2, q⟩
        · exact q.elim
    | exc cc st' => rw [e] at q; exact q
    | bad => rw [e] at q; exact q.elim
  · exact q.elim
end
theorem unhid {φ1 : Ph} {H1 : Hp} {D : Addr} {φ' : Ph} {H' : Hp} {st' : Lg.Store} (P : Hp → Prop) (g : GrowH φ1 H1 φ' H') (hd : φ'.hd = D :: φ1.hd) (rs : RepSt X.K φ' H' st') (q : ∀ φ' H', Grow φ1 H1 φ' H' → RepSt X.K φ' H' st' → P H') : P H' := by
  obtain ⟨cs, h⟩ := φ'
  have e : h = D :: φ1.hd := hd
  subst e
  exact q ⟨cs, φ1.hd⟩ H' ⟨g.pre, rfl, g.new, g.fr⟩ (RepSt.unhide (φ := ⟨cs, φ1.hd⟩) (D := D) rs)
/-- its reading -/
theorem compx_read {m : Bool} {own : List Nat} {elt : Lg.E} {tg : Lg.Tg} {it : Lg.It} {c : Lg.Eo} (hsl : ∀ j ∈ slots tg, j ∈ own) {σ : L2.St} {H : Hp} {Q : VK}
    (h : tE X.K cv W C (.compx m own elt tg it c) σ H Q) : tLc (tI X.K cv W C it) (tG X.K cv (WB W σ) C tg) (tCo X.K cv (WB W σ) C c) (tE X.K cv (WB W σ) C elt) own σ H Q := by
  obtain ⟨env, st, φ, re, rs, q⟩ := h
  simp only [Lg.ev] at q
  refine ⟨env, st, φ, re, rs, q.bind.imp fun w st1 φ1 H1 g1 rs1 q1 J hJ D hD => ?_⟩
  have re1 := re.grow (Grow.h g1)
  have oD := rs1.out hD
  refine ⟨fun i mm H' => mm = w.items.length - i ∧ i ≤ w.items.length ∧ ∃ (φ' : Ph) (acc : List Lg.D) (vs : List V) (st' : Lg.Store), CI X.K φ1 H1 D φ' H' acc vs st' ∧
      Pst X.K cv W σ φ1 H1 ((Lg.compL w.keep (turnX C own elt tg c env) (w.items.drop i) acc st').bind fun ys st2 => Lg.newList m ys st2) (kQ X.K Q), ⟨w.items.length, ?_⟩, ?_⟩
  · obtain ⟨g, _⟩ := rs1.lay hD (.lst [])
    refine ⟨by simp, Nat.zero_le _, φ1.hide D, [], [], st1, ⟨⟨List.prefix_refl _, fun b hb => ?_, fun _ h => .inl h, g.fr⟩, rfl, rs1.hide hD _, upd_same, .nil⟩, q1⟩
    rcases List.mem_cons.mp hb with z | z
    · subst z; exact .inr hD
    · exact .inl z
  · rintro i mm H' ⟨rfl, hi, φ', acc, vs, st', ci, q'⟩
    obtain ⟨cs, hd⟩ := φ'
    have ehd : hd = D :: φ1.hd := ci.hd
    subst ehd
    by_cases hlt : i < w.items.length
    · -- a turn
      right
      rw [List.drop_eq_getElem_cons hlt] at q'
      obtain ⟨hk, q2⟩ := compX_cons q'
      obtain ⟨_, hit⟩ := hJ _ H' st' ci.g ci.rs hk
      obtain ⟨go, yl⟩ := hit i _ (List.getElem?_eq_getElem hlt)
      refine ⟨go, fun H2 => ∃ (φ' : Ph) (acc : List Lg.D) (vs : List V) (st' : Lg.Store), CI X.K φ1 H1 D φ' H2 acc vs st' ∧
        Pst X.K cv W σ φ1 H1 ((Lg.compL w.keep (turnX C own elt tg c env) (w.items.drop (i + 1)) acc st').bind fun ys st2 => Lg.newList m ys st2) (kQ X.K Q), fun H2 h2 => ⟨w.items.length - (i + 1), by omega, rfl, hlt, h2⟩, fun x H3 y => ?_⟩
      obtain ⟨g3, rs3, rx⟩ := yl x H3 y
      have ci3 : CI X.K φ1 H1 D _ H3 acc vs st' := ⟨ci.g.then g3, rfl, rs3, g3.fr _ _ ci.eD (ci.rs.hid D List.mem_cons_self).1, ci.rv.grow (Grow.h g3)⟩
      have rew : REnv X.K _ H3 (L2.wipe σ own) (Lg.wipe env own) := ((re1.grow ci.g).grow (Grow.h g3)).wipe own
      rw [show turnX C own elt tg c env w.items[i] st' = (Lg.noexc (Lg.asg C tg w.items[i] (Lg.wipe env own) st')).bind fun env3 st3 => (Lg.evc C c env3 st3).bind fun b st4 =>
        if b then (Lg.ev C elt env3 st4).bind fun y st5 => .ok (some y) st5 else .ok none st4 from rfl] at q2
      cases e1 : Lg.asg C tg w.items[i] (Lg.wipe env own) st' with
      | exc _ _ => rw [e1] at q2; exact q2.elim
      | bad => rw [e1] at q2; exact q2.elim
      | ok env3 st3 =>
        rw [e1] at q2
        simp only [Lg.noexc, Lg.bind_ok] at q2
        refine ⟨_, _, st', _, rx, rew, rs3, ?_⟩
        rw [e1]
        intro φ4 H4 g4 rs4 σ4 re4 out4
        have lenσ : σ4.length = σ.length := by
          have l1 := re4.len
          have l2 : env3.length = (Lg.wipe env own).length := asg_envlen e1
          rw [← l1, l2, rew.len, L2.wipe_length]
        refine ⟨wipe_same lenσ hsl out4, env3, st3, φ4, re4, rs4, ?_⟩
        cases e2 : Lg.evc C c env3 st3 with
        | bad => rw [e2] at q2; exact q2.elim
        | exc cc st4 =>
          rw [e2] at q2
          intro φ5 H5 g5 rs5
          exact unhid (fun H' => W (cv cc) none σ H') ((ci3.g.then g4).then g5) (g5.hid.trans g4.hid) rs5 q2
        | ok b st4 =>
          rw [e2] at q2
          simp only [Lg.bind_ok] at q2
          intro φ5 H5 g5 rs5
          have ci5 : CI X.K φ1 H1 D φ5 H5 acc vs st4 := ⟨(ci3.g.then g4).then g5, (g5.hid.trans g4.hid), rs5, g5.fr _ _ (g4.fr _ _ ci3.eD (rs3.hid D List.mem_cons_self).1) (rs4.hid D (by rw [g4.hid]; exact List.mem_cons_self)).1, (ci3.rv.grow (Grow.h g4)).grow (Grow.h g5)⟩
          cases b with
          | false =>
            simp only [Bool.false_eq_true, if_false] at q2 ⊢
            exact ⟨φ5, acc, vs, st4, ci5, q2⟩
          | true =>
            simp only [if_true] at q2 ⊢
            refine ⟨env3, st4, φ5, re4.grow (Grow.h g5), rs5, ?_⟩
            cases e3 : Lg.ev C elt env3 st4 with
            | bad => rw [e3] at q2; exact q2.elim
            | exc cc st5 =>
              rw [e3] at q2
              intro φ6 H6 g6 rs6
              exact unhid (fun H' => W (cv cc) none σ H') (ci5.g.then g6) (g6.hid.trans ci5.hd) rs6 q2
            | ok y st2 =>
              rw [e3] at q2
              simp only [Lg.bind_ok] at q2
              intro φ6 H6 g6 rs6 yv ry
              have hD6 : D ∈ φ6.hd := by rw [g6.hid, ci5.hd]; exact List.mem_cons_self
              have eD6 : H6 D = some (.lst vs) := g6.fr _ _ ci5.eD (ci5.rs.hid D (by rw [ci5.hd]; exact List.mem_cons_self)).1
              have hc6 := (rs6.hid D hD6).1
              refine ⟨vs, eD6, by rw [(ci5.rv.grow (Grow.h g6)).length, ← size_eq]; exact q2.1, φ6, acc ++ [y], vs ++ [yv], st2, ⟨?_, by rw [g6.hid, ci5.hd], rs6.hidw hD6 _, upd_same, ?_⟩, q2.2⟩
              · have gg := ci5.g.then g6
                refine ⟨gg.pre, gg.hid, gg.new, fun b o eb hb => ?_⟩
                rw [upd_ne fun z => by subst z; rw [hD] at eb; cases eb]
                exact gg.fr b o eb hb
              · exact ((ci5.rv.grow (Grow.h g6)).append (.cons ry .nil)).hid hc6 hD6 _
    · -- the end
      left
      have hi' : i = w.items.length := by omega
      subst hi'
      rw [List.drop_length] at q'
      obtain ⟨hk, q2⟩ := compX_nil q'
      obtain ⟨stop, _⟩ := hJ _ H' st' ci.g ci.rs hk
      refine ⟨stop, ?_⟩
      have hcD := (ci.rs.hid D List.mem_cons_self).1
      cases m with
      | false =>
        have gu : Grow φ1 H1 ⟨cs, φ1.hd⟩ H' := ⟨ci.g.pre, rfl, ci.g.new, ci.g.fr⟩
        exact q2 _ _ gu (RepSt.unhide (φ := ⟨cs, φ1.hd⟩) (D := D) ci.rs) _ (.scr ci.eD ⟨hcD, oD.2⟩ (Reps.unhide (φ := ⟨cs, φ1.hd⟩) (D := D) ci.rv))
      | true =>
        have ga : Grow φ1 H1 (Ph.snoc ⟨cs, φ1.hd⟩ D) H' := ⟨ci.g.pre.trans (List.prefix_append _ _), rfl, fun b hb => by
          rcases List.mem_append.mp hb with z | z
          · exact ci.g.new b z
          · rw [List.mem_singleton.mp z]; exact .inr hD, ci.g.fr⟩
        refine q2 _ _ ga (RepSt.adopt (φ := ⟨cs, φ1.hd⟩) ci.rs oD.2 ci.eD ci.rv) _ (.ref ?_)
        show (cs ++ [D])[st'.length]? = some D
        have hl : cs.length = st'.length := ci.rs.len
        rw [List.getElem?_append_right (by rw [hl]; exact Nat.le_refl _), hl]
        simp
end
end So
namespace So
open PySem PySem.Spec PyProof.Rows L2
section
variable {X : L2.Cx} {N : List Str} {S : SC} {C : Lg.Cx} {cv : String → Value} {W : WX}
theorem Ok.blk (o : Ok X N S C cv W) {scope : Scope} (hk : scope.kind = .function) (s : Shared) (H : Hp) (D : Addr) (cl : List (Str × Addr)) (fp : List Addr) : Ok (X.blk s H scope (compEnvC scope cl D X.env) fp) N (S.blk scope) C cv WF where
  hN := o.hN
  nd := o.nd
  kind := hk
  hsc := by
    have := o.hsc
    show relS scope X.env.scope = relS scope S.sc
    rw [this]
  fn := fun x h => h
  calm := o.calm
  hu := o.hu
  tk := takes0
  xl := o.xl.elim fun L h => ⟨L, fun z => ⟨(h.1 z).stk, (h.1 z).frm⟩, takesL0⟩
  blt := o.blt
  own := o.own
  fnv := o.fnv
  xc := o.xc
  gl := o.gl
  cn := o.cn
  kls := o.kls
theorem Ok.blkX (o : Ok X N S C cv W) {scope : Scope} (hk : scope.kind = .function) {s : Shared} {H : Hp} {D : Addr} {cl : List (Str × Addr)} {fp : List Addr} {xe : Value → Shared → Prop} {W' : WX}
    (t : ∀ L', TakesL (blkX X s H scope (compEnvC scope cl D X.env) fp xe) L' W') : Ok (blkX X s H scope (compEnvC scope cl D X.env) fp xe) N (S.blk scope) C cv W' where
  hN := o.hN
  nd := o.nd
  kind := hk
  hsc := by
    have := o.hsc
    show relS scope X.env.scope = relS scope S.sc
    rw [this]
  fn := fun x h => h
  calm := o.calm
  hu := o.hu
  tk := (t _).to
  xl := o.xl.elim fun L h => ⟨L, fun z => ⟨(h.1 z).stk, (h.1 z).frm⟩, t L⟩
  blt := o.blt
  own := o.own
  fnv := o.fnv
  xc := o.xc
  gl := o.gl
  cn := o.cn
  kls := o.kls
theorem Ok.g (o : Ok X N S C cv W) {x : Str} (h : glb S.sc x = true) : Gl X x := by
  unfold glb at h
  rw [← o.hsc] at h
  have h := of_decide_eq_true h
  exact h
theorem Ok.v (o : Ok X N S C cv W) {x : Str} (h : visB S.sc x = true) : Vis X.env.scope x := by
  unfold visB at h
  rw [← o.hsc] at h
  simpa [Vis] using h
theorem Ok.l (o : Ok X N S C cv W) {x : Str} (h : locB S.sc x = true) : L2.Loc X.env.scope x := by
  unfold locB at h
  rw [← o.hsc] at h
  simpa [L2.Loc] using h
theorem okName1 {x : Str} (h : okName x = true) : (x == ("__debug__" : Str)) = false := by
  unfold okName at h
  simp only [Bool.and_eq_true, Bool.not_eq_true'] at h
  exact h.1
theorem okName2 {x : Str} (h : okName x = true) : (x == ("__classdict__" : Str)) = false := by
  unfold okName at h
  simp only [Bool.and_eq_true, Bool.not_eq_true'] at h
  exact h.2
theorem chkEs_star : ∀ {as : Lg.Es} {es : List Expr}, chkEs N S as es = true → es.all nstar = true
  | .nil, [], _ => rfl
  | .nil, _ :: _, h => by simp [chkEs] at h
  | .cons _ _, [], h => by simp [chkEs] at h
  | .cons a as, e :: es, h => by
    simp only [chkEs, Bool.and_eq_true] at h
    rw [List.all_cons, h.1.1, chkEs_star h.2]; rfl
theorem chkEs_nil {S : SC} : ∀ {as : Lg.Es} {es : List Expr}, chkEs N S as es = true → es = [] → as = .nil
  | .nil, _, _, _ => rfl
  | .cons _ _, [], h, _ => by simp [chkEs] at h
  | .cons _ _, _ :: _, _, e => by cases e
theorem chkTgs_star : ∀ {as : Lg.Tgs} {es : List Expr}, chkTgs N S as es = true → es.all nstar = true ∧ es.length = tgsLen as
  | .nil, [], _ => ⟨rfl, rfl⟩
  | .nil, _ :: _, h => by simp [chkTgs] at h
  | .cons _ _, [], h => by simp [chkTgs] at h
  | .cons a as, e :: es, h => by
    simp only [chkTgs, Bool.and_eq_true] at h
    obtain ⟨h1, h2⟩ := chkTgs_star h.2
    exact ⟨by rw [List.all_cons, h.1.1, h1]; rfl, by rw [List.length_cons, h2]; rfl⟩
theorem gen2 {e : Lg.E} {l : Expr} (hp : plainT l = true) (h : PE X l (tE X.K cv W C e)) : PE X l (tE X.K cv W C e) ∧ PT X l (tT X.K cv W C e) := ⟨h, st_gen hp h⟩
theorem pname_blt (p : Lg.Prim) : pname p ∈ blts := by cases p <;> simp [pname, blts]
theorem tname_blt (t : Lg.Ty) : tname t ∈ blts := by cases t <;> decide
end
theorem fset {i : Expr} {env : PySem.Env} (h : noSet i = true) (x : Value) : foldedSetIterable i env x = pure x := by
  cases i <;> first | rfl | cases h
theorem m_comp (N : List Str) (C : Lg.Cx) (cv : String → Value) {S : SC} {X : L2.Cx} {W : WX} {m : Bool} {own : List Nat} {elt : Lg.E} {tg : Lg.Tg} {it : Lg.It} {c : Lg.Eo} {el t i : Expr} {ifs : List Expr} {scope : Scope} {pos : Pos}
    (ok : Ok X N S C cv W) (hc : S.calm = true) (hs : noSet i = true) (hb : blkC N S.sc scope (ownOf N own) = true) (hsl : ∀ j ∈ slots tg, j ∈ own) (hi : PI X t i (tI X.K cv W C it))
    (hg : ∀ {X' : L2.Cx}, Ok X' N (S.blk scope) C cv WF → PG X' t (tG X'.K cv WF C tg)) (ht : ∀ {X' : L2.Cx}, Ok X' N (S.blk scope) C cv WF → PTs X' ifs (tCo X'.K cv WF C c)) (he : ∀ {X' : L2.Cx}, Ok X' N (S.blk scope) C cv WF → PE X' el (tE X'.K cv WF C elt)) :
    PE X (.ListComp el [⟨t, i, ifs, 0⟩] scope pos) (tE X.K cv W C (.comp m own elt tg it c)) := by
  have hb := blkOk_by hb
  have hk := hb.kind
  rw [← ok.hsc, ← ok.hN] at hb
  refine (pe_lc (g := tG X.K cv WF C tg) (tt := tCo X.K cv WF C c) (te := tE X.K cv WF C elt) (ok.calm hc) ok.nd hi hb (fun s H D cl fp => hg (ok.blk hk s H D cl fp)) (fun s H D cl fp => ht (ok.blk hk s H D cl fp)) (fun s H D cl fp => he (ok.blk hk s H D cl fp)) (fset hs)).to fun σ H Q h => ?_
  have e : (ownOf N own).map (·.2) = own := by unfold ownOf; rw [List.map_map]; simp [Function.comp_def]
  rw [ok.hN, e]
  exact comp_read hsl h
theorem m_compx (N : List Str) (C : Lg.Cx) (cv : String → Value) {S : SC} {X : L2.Cx} {W : WX} {m : Bool} {own : List Nat} {elt : Lg.E} {tg : Lg.Tg} {it : Lg.It} {c : Lg.Eo} {el t i : Expr} {ifs : List Expr} {scope : Scope} {pos : Pos}
    (ok : Ok X N S C cv W) (hc : S.calm = true) (hs : noSet i = true) (hb : blkC N S.sc scope (ownOf N own) = true) (hsl : ∀ j ∈ slots tg, j ∈ own) (hi : PI X t i (tI X.K cv W C it))
    (hg : ∀ {X' : L2.Cx} {W' : WX}, Ok X' N (S.blk scope) C cv W' → PG X' t (tG X'.K cv W' C tg)) (ht : ∀ {X' : L2.Cx} {W' : WX}, Ok X' N (S.blk scope) C cv W' → PTs X' ifs (tCo X'.K cv W' C c)) (he : ∀ {X' : L2.Cx} {W' : WX}, Ok X' N (S.blk scope) C cv W' → PE X' el (tE X'.K cv W' C elt)) :
    PE X (.ListComp el [⟨t, i, ifs, 0⟩] scope pos) (tE X.K cv W C (.compx m own elt tg it c)) := by
  have hb := blkOk_by hb
  have hk := hb.kind
  rw [← ok.hsc, ← ok.hN] at hb
  obtain ⟨L, fr, tl⟩ := ok.xl
  refine (pe_lcX (g := fun σ => tG X.K cv (WB W σ) C tg) (tt := fun σ => tCo X.K cv (WB W σ) C c) (te := fun σ => tE X.K cv (WB W σ) C elt) (ok.calm hc) ok.nd (fr hc) tl hi hb (fun σ s H D cl fp xe t => hg (ok.blkX hk t)) (fun σ s H D cl fp xe t => ht (ok.blkX hk t)) (fun σ s H D cl fp xe t => he (ok.blkX hk t)) (fset hs)).to fun σ H Q h => ?_
  have e : (ownOf N own).map (·.2) = own := by unfold ownOf; rw [List.map_map]; simp [Function.comp_def]
  rw [ok.hN, e]
  exact compx_read hsl h
theorem m_call {N : List Str} {C : Lg.Cx} {cv : String → Value} {S : SC} {X : L2.Cx} {W : WX} {f : String} {as : Lg.Es} {es : List Expr} {p pos : Pos} {fa : Addr} {fd : FuncData} {ps : List Str} {k : Nat} (ok : Ok X N S C cv W) (hg : Gl X (Str.ofString f)) (hd : (Str.ofString f == ("__debug__" : Str)) = false) (hm : X.mg (Str.ofString f) = some (.ref fa)) (hk : PySem.W.keepIn X.K (.ref fa) = true) (hr : Room k X.A)
    (hb : Binds X.K fd ps []) (F : FnOk X.prog X.w X.K X.mg X.base (L2.CX X.prog X.w) k fa fd ps (spC X.K cv (C.call f))) (has : chkEs N S as es = true) (ha : PA X es (tA X.K cv W C as)) : PE X (.Call (.Name (Str.ofString f) p) es [] pos) (tE X.K cv W C (.call f as)) := by
  cases es with
  | cons e es => exact sn_call ok.tk hg hd hm hk hr hb F (chkEs_star has) ha
  | nil =>
    cases as with
    | nil => exact sn_call0 ok.tk hg hd hm hk hr hb F
    | cons a as => simp [chkEs] at has
theorem m_meth {N : List Str} {C : Lg.Cx} {cv : String → Value} {S : SC} {X : L2.Cx} {W : WX} (m : Lg.Meth) {o : Lg.E} {as : Lg.Es} {l : Expr} {es : List Expr} {ap pos : Pos} (hp : plainBase l = true) (hl : (ap.endLine == pos.line) = true) (hz : es.length = mar m) (ho : PE X l (tE X.K cv W C o))
    (has : chkEs N S as es = true) (ha : ∀ a, as = .cons a .nil → ∀ {r : Expr}, chkE N S a r = true → PE X r (tE X.K cv W C a)) : PE X (.Call (.Attribute l (Str.ofString (mname m)) ap) es [] pos) (tE X.K cv W C (.meth m o as)) := by
  cases m with
  | append =>
    match as, es, hz, has with
    | .cons a .nil, [e], _, has =>
      have hs := chkEs_star has
      simp only [chkEs, Bool.and_eq_true] at has
      exact sn_append hp hl has.1.1 ho (ha a rfl has.1.2)
    | .nil, [_], _, has => simp [chkEs] at has
    | .cons _ (.cons _ _), [_], _, has => simp [chkEs] at has
  | extend =>
    match as, es, hz, has with
    | .cons a .nil, [e], _, has =>
      have hs := chkEs_star has
      simp only [chkEs, Bool.and_eq_true] at has
      exact sn_extend hp hl has.1.1 ho (ha a rfl has.1.2)
    | .nil, [_], _, has => simp [chkEs] at has
    | .cons _ (.cons _ _), [_], _, has => simp [chkEs] at has
  | index =>
    match as, es, hz, has with
    | .cons a .nil, [e], _, has =>
      have hs := chkEs_star has
      simp only [chkEs, Bool.and_eq_true] at has
      exact sn_index hp hl has.1.1 ho (ha a rfl has.1.2)
    | .nil, [_], _, has => simp [chkEs] at has
    | .cons _ (.cons _ _), [_], _, has => simp [chkEs] at has
  | pop =>
    match as, es, hz, has with
    | .nil, [], _, has => exact sn_pop hp hl ho
    | .cons _ _, [], _, has => simp [chkEs] at has
  | bitLength =>
    match as, es, hz, has with
    | .nil, [], _, has => exact sn_bits hp hl ho
    | .cons _ _, [], _, has => simp [chkEs] at has
mutual
theorem mE (N : List Str) (C : Lg.Cx) (cv : String → Value) : ∀ (e : Lg.E) {S : SC} {X : L2.Cx} {W : WX} {l : Expr}, Ok X N S C cv W → chkE N S e l = true → PE X l (tE X.K cv W C e) ∧ PT X l (tT X.K cv W C e)
  | .non, S, X, W, l, ok, h => by
    unfold chkE at h; split at h <;> try contradiction
    exact gen2 rfl sn_non
  | .bl b, S, X, W, l, ok, h => by
    unfold chkE at h; split at h <;> try contradiction
    cases ‹Lg.E.bl b = _›
    simp only [beq_iff_eq] at h
    subst h
    exact gen2 rfl sn_bl
  | .int b, S, X, W, l, ok, h => by
    unfold chkE at h; split at h <;> try contradiction
    cases ‹Lg.E.int b = _›
    simp only [decide_eq_true_eq] at h
    subst h
    exact gen2 rfl sn_int
  | .str b, S, X, W, l, ok, h => by
    unfold chkE at h; split at h <;> try contradiction
    cases ‹Lg.E.str b = _›
    simp only [decide_eq_true_eq] at h
    subst h
    exact gen2 rfl sn_str
  | .var i, S, X, W, l, ok, h => by
    unfold chkE at h; split at h <;> try contradiction
    cases ‹Lg.E.var i = _›
    simp only [Bool.and_eq_true, decide_eq_true_eq] at h
    obtain ⟨⟨h1, h2⟩, h3⟩ := h
    exact gen2 rfl (sn_var (by rw [ok.hN]; exact h1) (ok.v h2) (okName1 h3) (okName2 h3))
  | .glob f, S, X, W, l, ok, h => by
    unfold chkE at h; split at h <;> try contradiction
    cases ‹Lg.E.glob f = _›
    simp only [Bool.and_eq_true, decide_eq_true_eq, List.contains_iff_mem] at h
    obtain ⟨⟨⟨rfl, h1⟩, h2⟩, h3⟩ := h
    exact gen2 rfl (sn_glob (ok.g h1) (okName1 h2) (ok.gl _ h3))
  | .con d, S, X, W, l, ok, h => by
    unfold chkE at h; split at h <;> try contradiction
    cases ‹Lg.E.con d = _›
    simp only [Bool.and_eq_true, List.any_eq_true, decide_eq_true_eq] at h
    obtain ⟨⟨h1, h2⟩, p, hp, rfl, rfl⟩ := h
    exact gen2 rfl (sn_con (ok.g h1) (okName1 h2) (ok.cn p hp))
  | .bin op a b, S, X, W, l, ok, h => by
    unfold chkE at h; split at h <;> try contradiction
    cases ‹Lg.E.bin op a b = _›
    simp only [Bool.and_eq_true, decide_eq_true_eq] at h
    obtain ⟨⟨rfl, ha⟩, hb⟩ := h
    exact gen2 rfl (sn_bin _ (mE N C cv a ok ha).1 (mE N C cv b ok hb).1)
  | .neg a, S, X, W, l, ok, h => by
    unfold chkE at h; split at h <;> try contradiction
    cases ‹Lg.E.neg a = _›
    exact gen2 rfl (sn_neg (mE N C cv a ok h).1)
  | .not a, S, X, W, l, ok, h => by
    unfold chkE at h; split at h <;> try contradiction
    cases ‹Lg.E.not a = _›
    exact ⟨sn_not (mE N C cv a ok h).1, st_not (mE N C cv a ok h).2⟩
  | .cmp op a b, S, X, W, l, ok, h => by
    unfold chkE at h; split at h <;> try contradiction
    cases ‹Lg.E.cmp op a b = _›
    simp only [Bool.and_eq_true, decide_eq_true_eq] at h
    obtain ⟨⟨⟨rfl, hs⟩, ha⟩, hb⟩ := h
    exact ⟨sn_cmp ok.hu op hs (mE N C cv a ok ha).1 (mE N C cv b ok hb).1, st_cmp ok.hu op hs (mE N C cv a ok ha).1 (mE N C cv b ok hb).1⟩
  | .chain p q a b c, S, X, W, l, ok, h => by
    unfold chkE at h; split at h <;> try contradiction
    cases ‹Lg.E.chain p q a b c = _›
    simp only [Bool.and_eq_true, decide_eq_true_eq] at h
    obtain ⟨⟨⟨⟨⟨rfl, rfl⟩, hs⟩, ha⟩, hb⟩, hc⟩ := h
    exact ⟨sn_chain ok.hu p q hs (mE N C cv a ok ha).1 (mE N C cv b ok hb).1 (mE N C cv c ok hc).1, st_chain ok.hu p q hs (mE N C cv a ok ha).1 (mE N C cv b ok hb).1 (mE N C cv c ok hc).1⟩
  | .chain3 p q r a b c d, S, X, W, l, ok, h => by
    unfold chkE at h; split at h <;> try contradiction
    cases ‹Lg.E.chain3 p q r a b c d = _›
    simp only [Bool.and_eq_true, decide_eq_true_eq] at h
    obtain ⟨⟨⟨⟨⟨⟨⟨rfl, rfl⟩, rfl⟩, hs⟩, ha⟩, hb⟩, hc⟩, hd⟩ := h
    exact ⟨sn_chain3 ok.hu p q r hs (mE N C cv a ok ha).1 (mE N C cv b ok hb).1 (mE N C cv c ok hc).1 (mE N C cv d ok hd).1, st_chain3 ok.hu p q r hs (mE N C cv a ok ha).1 (mE N C cv b ok hb).1 (mE N C cv c ok hc).1 (mE N C cv d ok hd).1⟩
  | .and a b, S, X, W, l, ok, h => by
    unfold chkE at h; split at h <;> try contradiction
    cases ‹Lg.E.and a b = _›
    simp only [Bool.and_eq_true, decide_eq_true_eq] at h
    obtain ⟨ha, hb⟩ := h
    exact ⟨sn_and (mE N C cv a ok ha).1 (mE N C cv b ok hb).1, st_and (mE N C cv a ok ha).2 (mE N C cv b ok hb).2⟩
  | .or a b, S, X, W, l, ok, h => by
    unfold chkE at h; split at h <;> try contradiction
    cases ‹Lg.E.or a b = _›
    simp only [Bool.and_eq_true, decide_eq_true_eq] at h
    obtain ⟨ha, hb⟩ := h
    exact ⟨sn_or (mE N C cv a ok ha).1 (mE N C cv b ok hb).1, st_or (mE N C cv a ok ha).2 (mE N C cv b ok hb).2⟩
  | .ite c a b, S, X, W, l, ok, h => by
    unfold chkE at h; split at h <;> try contradiction
    cases ‹Lg.E.ite c a b = _›
    simp only [Bool.and_eq_true, decide_eq_true_eq] at h
    obtain ⟨⟨hc, ha⟩, hb⟩ := h
    exact ⟨sn_ite (mE N C cv c ok hc).2 (mE N C cv a ok ha).1 (mE N C cv b ok hb).1, st_ite (mE N C cv c ok hc).2 (mE N C cv a ok ha).2 (mE N C cv b ok hb).2⟩
  | .call f as, S, X, W, l, ok, h => by
    unfold chkE at h; split at h <;> try contradiction
    cases ‹Lg.E.call f as = _›
    simp only [Bool.and_eq_true, decide_eq_true_eq, List.contains_iff_mem] at h
    obtain ⟨⟨⟨⟨⟨rfl, hg⟩, hn⟩, hc⟩, hf⟩, has⟩ := h
    obtain ⟨fa, fd, ps, k, hm, hk, hr, hb, F⟩ := ok.own hc _ hf
    exact gen2 rfl (m_call ok (ok.g hg) (okName1 hn) hm hk hr hb F has (mEs N C cv as ok has))
  | .prim p as, S, X, W, l, ok, h => by
    unfold chkE at h; split at h <;> try contradiction
    cases ‹Lg.E.prim p as = _›
    simp only [Bool.and_eq_true, decide_eq_true_eq] at h
    obtain ⟨⟨⟨rfl, hg⟩, hc⟩, has⟩ := h
    exact gen2 rfl (sn_prim (ok.calm hc) p (ok.g hg) (ok.blt _ (pname_blt p)) (chkEs_star has) (mEs N C cv as ok has))
  | .isi t a, S, X, W, l, ok, h => by
    unfold chkE at h; split at h <;> try contradiction
    cases ‹Lg.E.isi t a = _›
    simp only [Bool.and_eq_true, decide_eq_true_eq] at h
    obtain ⟨⟨⟨⟨⟨rfl, rfl⟩, hg⟩, hg2⟩, hs⟩, ha⟩ := h
    exact gen2 rfl (sn_isi t (ok.g hg) (ok.blt "isinstance" (by simp [blts])) (ok.g hg2) (ok.blt _ (tname_blt t)) hs (mE N C cv a ok ha).1)
  | .isi2 t u a, S, X, W, l, ok, h => by
    unfold chkE at h; split at h <;> try contradiction
    cases ‹Lg.E.isi2 t u a = _›
    simp only [Bool.and_eq_true, decide_eq_true_eq] at h
    obtain ⟨⟨⟨⟨⟨⟨⟨rfl, rfl⟩, rfl⟩, hg⟩, hg2⟩, hg3⟩, hs⟩, ha⟩ := h
    exact gen2 rfl (sn_isi2 t u (ok.g hg) (ok.blt "isinstance" (by simp [blts])) (ok.g hg2) (ok.blt _ (tname_blt t)) (ok.g hg3) (ok.blt _ (tname_blt u)) hs (mE N C cv a ok ha).1)
  | .ix a i, S, X, W, l, ok, h => by
    unfold chkE at h; split at h <;> try contradiction
    cases ‹Lg.E.ix a i = _›
    simp only [Bool.and_eq_true] at h
    obtain ⟨⟨hs, ha⟩, hb⟩ := h
    exact gen2 rfl (sn_ix hs (mE N C cv a ok ha).1 (mE N C cv i ok hb).1)
  | .slice a lo hi, S, X, W, l, ok, h => by
    unfold chkE at h; split at h <;> try contradiction
    cases ‹Lg.E.slice a lo hi = _›
    simp only [Bool.and_eq_true] at h
    obtain ⟨⟨ha, hl⟩, hh⟩ := h
    exact gen2 rfl (sn_slice (mE N C cv a ok ha).1 (mEo N C cv lo ok hl) (mEo N C cv hi ok hh))
  | .tup as, S, X, W, l, ok, h => by
    unfold chkE at h; split at h <;> try contradiction
    cases ‹Lg.E.tup as = _›
    exact gen2 rfl (sn_tup (mEs N C cv as ok h))
  | .lst m as, S, X, W, l, ok, h => by
    unfold chkE at h; split at h <;> try contradiction
    cases ‹Lg.E.lst m as = _›
    exact gen2 rfl (sn_lst (mEs N C cv as ok h))
  | .comp m own elt tg it c, S, X, W, l, ok, h => by
    unfold chkE at h; split at h <;> try contradiction
    cases ‹Lg.E.comp m own elt tg it c = _›
    simp only [Bool.and_eq_true, decide_eq_true_eq, List.all_eq_true, List.contains_iff_mem] at h
    obtain ⟨⟨⟨⟨⟨⟨⟨⟨⟨hc, rfl⟩, hs⟩, hi⟩, hb⟩, hn⟩, hsl⟩, htg⟩, hco⟩, hel⟩ := h
    exact gen2 rfl (m_comp N C cv ok hc hs hb hsl (mIt N C cv it ok hi) (fun o => mTg N C cv tg o htg) (fun o => mC N C cv c o hco) (fun o => (mE N C cv elt o hel).1))
  | .compx m own elt tg it c, S, X, W, l, ok, h => by
    unfold chkE at h; split at h <;> try contradiction
    cases ‹Lg.E.compx m own elt tg it c = _›
    simp only [Bool.and_eq_true, decide_eq_true_eq, List.all_eq_true, List.contains_iff_mem] at h
    obtain ⟨⟨⟨⟨⟨⟨⟨⟨⟨hc, rfl⟩, hs⟩, hi⟩, hb⟩, hn⟩, hsl⟩, htg⟩, hco⟩, hel⟩ := h
    exact gen2 rfl (m_compx N C cv ok hc hs hb hsl (mIt N C cv it ok hi) (fun o => mTg N C cv tg o htg) (fun o => mC N C cv c o hco) (fun o => (mE N C cv elt o hel).1))
  | .lrange m lo hi, S, X, W, l, ok, h => by
    unfold chkE at h; split at h <;> try contradiction
    cases ‹Lg.E.lrange m lo hi = _›
    simp only [Bool.and_eq_true, decide_eq_true_eq] at h
    obtain ⟨⟨⟨⟨⟨rfl, rfl⟩, hg⟩, hg2⟩, hc⟩, h⟩ := h
    split at h <;> try contradiction
    · simp only [Bool.and_eq_true] at h
      exact gen2 rfl (sn_lrange1 (ok.calm hc) (ok.g hg) (ok.blt "list" (by simp [blts])) (ok.g hg2) (ok.blt "range" (by simp [blts])) h.1 (mE N C cv hi ok h.2).1)
    · simp only [Bool.and_eq_true] at h
      obtain ⟨⟨⟨h1, h2⟩, ha⟩, hb⟩ := h
      exact gen2 rfl (sn_lrange2 (ok.calm hc) (ok.g hg) (ok.blt "list" (by simp [blts])) (ok.g hg2) (ok.blt "range" (by simp [blts])) h1 h2 (mE N C cv lo ok ha).1 (mE N C cv hi ok hb).1)
  | .lrep a b, S, X, W, l, ok, h => by
    unfold chkE at h; split at h <;> try contradiction
    cases ‹Lg.E.lrep a b = _›
    simp only [Bool.and_eq_true, decide_eq_true_eq] at h
    obtain ⟨⟨rfl, ha⟩, hb⟩ := h
    exact gen2 rfl (sn_lrep (mE N C cv a ok ha).1 (mE N C cv b ok hb).1)
  | .ladd a b, S, X, W, l, ok, h => by
    unfold chkE at h; split at h <;> try contradiction
    cases ‹Lg.E.ladd a b = _›
    simp only [Bool.and_eq_true, decide_eq_true_eq] at h
    obtain ⟨⟨rfl, ha⟩, hb⟩ := h
    exact gen2 rfl (sn_ladd (mE N C cv a ok ha).1 (mE N C cv b ok hb).1)
  | .rev a, S, X, W, l, ok, h => by
    unfold chkE at h; split at h <;> try contradiction
    cases ‹Lg.E.rev a = _›
    exact gen2 rfl (sn_rev (mE N C cv a ok h).1)
  | .fnv f, S, X, W, l, ok, h => by
    unfold chkE at h; split at h <;> try contradiction
    cases ‹Lg.E.fnv f = _›
    simp only [Bool.and_eq_true, decide_eq_true_eq, List.contains_iff_mem] at h
    obtain ⟨⟨⟨⟨rfl, h1⟩, h2⟩, h3⟩, h4⟩ := h
    exact gen2 rfl (sn_fnv (ok.g h1) (okName1 h2) (ok.fnv h3 _ h4))
  | .callv i fs as, S, X, W, l, ok, h => by
    unfold chkE at h; split at h <;> try contradiction
    cases ‹Lg.E.callv i fs as = _›
    simp only [Bool.and_eq_true, decide_eq_true_eq, List.all_eq_true, List.contains_iff_mem] at h
    obtain ⟨⟨⟨⟨⟨h1, h2⟩, h3⟩, h4⟩, h5⟩, h6⟩ := h
    refine gen2 rfl (sn_callv ok.tk (by rw [ok.hN]; exact h1) (ok.v h2) (okName1 h3) (okName2 h3) (fun f hf => ?_) (chkEs_star h6) (mEs N C cv as ok h6))
    obtain ⟨fa, fd, ps, k, hm, hk, hr, hb, F⟩ := ok.own h4 f (h5 f hf)
    have e := hm.symm.trans (ok.fnv h4 f (h5 f hf))
    cases e
    exact ⟨fd, ps, k, hk, hr, hb, F⟩
  | .meth m o as, S, X, W, l, ok, h => by
    unfold chkE at h; split at h <;> try contradiction
    cases ‹Lg.E.meth m o as = _›
    simp only [Bool.and_eq_true, decide_eq_true_eq] at h
    obtain ⟨⟨⟨⟨⟨⟨hc, rfl⟩, hp⟩, hl⟩, hz⟩, ho⟩, has⟩ := h
    exact gen2 rfl (m_meth m hp hl hz (mE N C cv o ok ho).1 has (fun a ha => by
      cases as with
      | nil => cases ha
      | cons a1 as1 => cases ha; exact fun h => (mE N C cv a ok h).1))
  | .fld o f, S, X, W, l, ok, h => by
    unfold chkE at h; split at h <;> try contradiction
    cases ‹Lg.E.fld o f = _›
    simp only [Bool.and_eq_true, decide_eq_true_eq] at h
    obtain ⟨⟨rfl, hp⟩, ho⟩ := h
    exact gen2 rfl (sn_fld hp (mE N C cv o ok ho).1)
  | .mk c as, S, X, W, l, ok, h => by
    unfold chkE at h; split at h <;> try contradiction
    cases ‹Lg.E.mk c as = _›
    simp only [Bool.and_eq_true, decide_eq_true_eq, List.contains_iff_mem] at h
    obtain ⟨⟨⟨⟨⟨rfl, hg⟩, hn⟩, hc⟩, hk⟩, has⟩ := h
    refine gen2 rfl ?_
    cases eI : C.ci c with
    | none => exact ⟨fun pins s σ H Q I ⟨env, st, φ, re, rs, q⟩ => by simp only [Lg.ev, eI] at q; exact q.elim⟩
    | some I =>
      obtain ⟨hm, kk, ⟨fa, fd, ps, k, M, hr, hb, F⟩, _⟩ := ok.kls hc c hk I eI
      exact sn_mk ok.tk eI kk (ok.g hg) (okName1 hn) hm M hr hb F (chkEs_star has) (mEs N C cv as ok has) (chkEs_nil has)
  | .mcall o c m as, S, X, W, l, ok, h => by
    unfold chkE at h; split at h <;> try contradiction
    cases ‹Lg.E.mcall o c m as = _›
    simp only [Bool.and_eq_true, decide_eq_true_eq, List.contains_iff_mem] at h
    obtain ⟨⟨⟨⟨⟨⟨⟨hc, hk⟩, rfl⟩, hp⟩, hl⟩, hz⟩, ho⟩, has⟩ := h
    refine gen2 rfl ?_
    cases eI : C.ci c with
    | none => exact ⟨fun pins s σ H Q I ⟨env, st, φ, re, rs, q⟩ => by simp only [Lg.ev, eI, Option.bind_none] at q; exact q.elim⟩
    | some I =>
      cases eg : I.ms.lookup m with
      | none => exact ⟨fun pins s σ H Q I ⟨env, st, φ, re, rs, q⟩ => by simp only [Lg.ev, eI, Option.bind_some, eg] at q; exact q.elim⟩
      | some g =>
        obtain ⟨hm, kk, _, hms⟩ := ok.kls hc c hk I eI
        obtain ⟨fa, fd, ps, k, M, hr, hb, F⟩ := hms m g eg
        exact sn_mcall ok.tk eI eg hp hl M hr hb F (chkEs_star has) hz (mE N C cv o ok ho).1 (mEs N C cv as ok has) (chkEs_nil has)
theorem mEs (N : List Str) (C : Lg.Cx) (cv : String → Value) : ∀ (as : Lg.Es) {S : SC} {X : L2.Cx} {W : WX} {l : List Expr}, Ok X N S C cv W → chkEs N S as l = true → PA X l (tA X.K cv W C as)
  | .nil, S, X, W, l, ok, h => by
    unfold chkEs at h; split at h <;> try contradiction
    exact sa_nil
  | .cons a as, S, X, W, l, ok, h => by
    unfold chkEs at h; split at h <;> try contradiction
    cases ‹Lg.Es.cons a as = _›
    simp only [Bool.and_eq_true] at h
    exact sa_cons h.1.1 (mE N C cv a ok h.1.2).1 (mEs N C cv as ok h.2)
theorem mEo (N : List Str) (C : Lg.Cx) (cv : String → Value) : ∀ (a : Lg.Eo) {S : SC} {X : L2.Cx} {W : WX} {l : Option Expr}, Ok X N S C cv W → chkEo N S a l = true → PO X l (tO X.K cv W C a)
  | .none, S, X, W, l, ok, h => by
    unfold chkEo at h; split at h <;> try contradiction
    exact so_none
  | .some a, S, X, W, l, ok, h => by
    unfold chkEo at h; split at h <;> try contradiction
    cases ‹Lg.Eo.some a = _›
    exact so_some (mE N C cv a ok h).1
theorem mC (N : List Str) (C : Lg.Cx) (cv : String → Value) : ∀ (a : Lg.Eo) {S : SC} {X : L2.Cx} {W : WX} {l : List Expr}, Ok X N S C cv W → chkC N S a l = true → PTs X l (tCo X.K cv W C a)
  | .none, S, X, W, l, ok, h => by
    unfold chkC at h; split at h <;> try contradiction
    exact sc_none
  | .some a, S, X, W, l, ok, h => by
    unfold chkC at h; split at h <;> try contradiction
    cases ‹Lg.Eo.some a = _›
    exact sc_some (mE N C cv a ok h).2
theorem mIt (N : List Str) (C : Lg.Cx) (cv : String → Value) : ∀ (a : Lg.It) {S : SC} {X : L2.Cx} {W : WX} {l tg : Expr}, Ok X N S C cv W → chkIt N S a l tg = true → PI X tg l (tI X.K cv W C a)
  | .seq a, S, X, W, l, tg, ok, h => by
    unfold chkIt at h
    exact si_seq (mE N C cv a ok h).1
  | .rng1 a, S, X, W, l, tg, ok, h => by
    unfold chkIt at h; split at h <;> try contradiction
    cases ‹Lg.It.rng1 a = _›
    simp only [Bool.and_eq_true, decide_eq_true_eq] at h
    obtain ⟨⟨⟨rfl, hg⟩, hs⟩, ha⟩ := h
    exact si_rng1 (ok.g hg) (ok.blt "range" (by simp [blts])) hs (mE N C cv a ok ha).1
  | .rng2 a b, S, X, W, l, tg, ok, h => by
    unfold chkIt at h; split at h <;> try contradiction
    cases ‹Lg.It.rng2 a b = _›
    simp only [Bool.and_eq_true, decide_eq_true_eq] at h
    obtain ⟨⟨⟨⟨⟨rfl, hg⟩, hs⟩, hs2⟩, ha⟩, hb⟩ := h
    exact si_rng2 (ok.g hg) (ok.blt "range" (by simp [blts])) hs hs2 (mE N C cv a ok ha).1 (mE N C cv b ok hb).1
  | .rng3 a b c, S, X, W, l, tg, ok, h => by
    unfold chkIt at h; split at h <;> try contradiction
    cases ‹Lg.It.rng3 a b c = _›
    simp only [Bool.and_eq_true, decide_eq_true_eq] at h
    obtain ⟨⟨⟨⟨⟨⟨⟨rfl, hg⟩, hs⟩, hs2⟩, hs3⟩, ha⟩, hb⟩, hc⟩ := h
    exact si_rng3 (ok.g hg) (ok.blt "range" (by simp [blts])) hs hs2 hs3 (mE N C cv a ok ha).1 (mE N C cv b ok hb).1 (mE N C cv c ok hc).1
  | .enum a, S, X, W, l, tg, ok, h => by
    unfold chkIt at h; split at h <;> try contradiction
    cases ‹Lg.It.enum a = _›
    simp only [Bool.and_eq_true, decide_eq_true_eq] at h
    obtain ⟨⟨⟨rfl, hg⟩, hs⟩, ha⟩ := h
    exact si_enum (ok.g hg) (ok.blt "enumerate" (by simp [blts])) hs (mE N C cv a ok ha).1
  | .zip a b, S, X, W, l, tg, ok, h => by
    unfold chkIt at h; split at h <;> try contradiction
    cases ‹Lg.It.zip a b = _›
    simp only [Bool.and_eq_true, decide_eq_true_eq] at h
    obtain ⟨⟨⟨⟨⟨rfl, hg⟩, hs⟩, hs2⟩, ha⟩, hb⟩ := h
    exact si_zip (ok.g hg) (ok.blt "zip" (by simp [blts])) hs hs2 (mE N C cv a ok ha).1 (mE N C cv b ok hb).1
theorem mTg (N : List Str) (C : Lg.Cx) (cv : String → Value) : ∀ (a : Lg.Tg) {S : SC} {X : L2.Cx} {W : WX} {l : Expr}, Ok X N S C cv W → chkTg N S a l = true → PG X l (tG X.K cv W C a)
  | .nm i, S, X, W, l, ok, h => by
    unfold chkTg at h; split at h <;> try contradiction
    cases ‹Lg.Tg.nm i = _›
    simp only [Bool.and_eq_true, decide_eq_true_eq, Bool.or_eq_true] at h
    obtain ⟨⟨h1, h2⟩, h3⟩ := h
    exact sg_nm ok.nd (by rw [ok.hN]; exact h1) (ok.l h2) (h3.imp (ok.fn _) fun z => by rw [ok.hsc]; exact z)
  | .tp ts, S, X, W, l, ok, h => by
    unfold chkTg at h; split at h <;> try contradiction
    cases ‹Lg.Tg.tp ts = _›
    simp only [Bool.and_eq_true] at h
    obtain ⟨h1, h2⟩ := chkTgs_star h.2
    exact sg_tp (ok.calm h.1) h1 h2 (mTgs N C cv ts ok h.2)
  | .ix a i, S, X, W, l, ok, h => by
    unfold chkTg at h; split at h <;> try contradiction
    cases ‹Lg.Tg.ix a i = _›
    simp only [Bool.and_eq_true] at h
    obtain ⟨⟨hs, ha⟩, hb⟩ := h
    exact sg_ix hs (mE N C cv a ok ha).1 (mE N C cv i ok hb).1
theorem mTgs (N : List Str) (C : Lg.Cx) (cv : String → Value) : ∀ (a : Lg.Tgs) {S : SC} {X : L2.Cx} {W : WX} {l : List Expr}, Ok X N S C cv W → chkTgs N S a l = true → PGs X l (tGs X.K cv W C a)
  | .nil, S, X, W, l, ok, h => by
    unfold chkTgs at h; split at h <;> try contradiction
    exact sg_nil
  | .cons t ts, S, X, W, l, ok, h => by
    unfold chkTgs at h; split at h <;> try contradiction
    cases ‹Lg.Tgs.cons t ts = _›
    simp only [Bool.and_eq_true] at h
    exact sg_cons h.1.1 (mTg N C cv t ok h.1.2) (mTgs N C cv ts ok h.2)
end
end So
namespace So
open PySem PySem.Spec PyProof.Rows L2
/-! ### statements -/
section
variable (K : PySem.W.Frag) (cv : String → Value) (W : WX) (C : Lg.Cx) (sub : String → String → Option Bool)
def kF (D : Ends) : Lg.Fl → Lg.Store → Ph → Hp → Prop := fun f _ φ' H' => match f with
  | .nx env => ∀ σ', REnv K φ' H' σ' env → D.nx σ' H'
  | .bk env => ∀ σ', REnv K φ' H' σ' env → D.bk σ' H'
  | .ct env => ∀ σ', REnv K φ' H' σ' env → D.ct σ' H'
  | .rt d => ∀ v, Rep K φ' H' v d → D.rt v H'
  | .xc c env => ∀ σ', REnv K φ' H' σ' env → W (cv c) none σ' H'
def tS (s : Lg.S) : TS := fun D σ H => ∃ env st φ, REnv K φ H σ env ∧ RepSt K φ H st ∧ Pst K cv W σ φ H (Lg.noexc (Lg.exec C sub s env st)) (kF K cv W D)
def tSs (s : Lg.Ss) : TS := fun D σ H => ∃ env st φ, REnv K φ H σ env ∧ RepSt K φ H st ∧ Pst K cv W σ φ H (Lg.noexc (Lg.execs C sub s env st)) (kF K cv W D)
end
def rIp : Lg.Bop → R2
  | .add => rI0 fun i j => .int (i + j)
  | .sub => rI0 fun i j => .int (i - j)
  | .mul => rI CMulX (fun i j => .int (i * j))
  | .fdiv => rI CFd fun i j => .int (i.fdiv j)
  | .mod => rI (fun _ j => j ≠ 0) fun i j => .int (i.fmod j)
  | _ => fun _ _ _ _ => False
section
variable {X : L2.Cx} {cv : String → Value} {W : WX} {C : Lg.Cx} {sub : String → String → Option Bool} {pos : Pos} {σ : L2.St} {φ : Ph} {H : Hp} {env : Lg.Env} {st : Lg.Store} {D : Ends}
theorem iop_rule : ∀ op : Lg.Bop, PIp X (opB op) (rIp op)
  | .add => iop_add
  | .sub => iop_sub
  | .mul => iop_mulX
  | .fdiv => iop_fd
  | .mod => iop_modN
  | .pow => fun _ _ _ _ _ _ _ _ _ _ _ _ h => h.elim
  | .shl => fun _ _ _ _ _ _ _ _ _ _ _ _ h => h.elim
theorem iop_read (rs : RepSt X.K φ H st) (op : Lg.Bop) {x y : V} {dx dy : Lg.D} (hx : Rep X.K φ H x dx) (hy : Rep X.K φ H y dy) {Q : VK} (q : Pst X.K cv W σ φ H (Lg.iop op dx dy st) (kQ X.K Q)) : rIp op x y H Q := by
  cases op <;> cases hx <;> cases hy <;> first
    | exact q.elim
    | (rename_i i j; exact ⟨i, j, rfl, rfl, q.here rs _ (.int _)⟩)
    | (rename_i i j
       simp only [Lg.iop] at q
       split at q
       · rename_i hz; exact ⟨i, j, rfl, rfl, hz, q.here rs _ (.int _)⟩
       · exact q.elim)
    | (rename_i i j
       simp only [Lg.iop] at q
       split at q
       · rename_i hz
         refine ⟨i, j, rfl, rfl, ?_, q.here rs _ (.int _)⟩
         unfold CMulX
         rw [← bits_eq, ← bits_eq]
         have e : Lg.bitsLine = 134217728 := rfl
         omega
       · exact q.elim)
theorem Pst.lift {α : Type} {r : Lg.Out α} {f : α → Lg.Store → Lg.Out Lg.Fl} (re : REnv X.K φ H σ env) (q : Pst X.K cv W σ φ H (Lg.noexc (Lg.lift env r f)) (kF X.K cv W D)) : Pst X.K cv W σ φ H (r.bind fun a st => Lg.noexc (f a st)) (kF X.K cv W D) := by
  cases r with
  | ok a st => exact q
  | exc c st => exact fun φ' H' g rs => q φ' H' g rs σ (re.grow (Grow.h g))
  | bad => exact q
theorem ss_nil : PSs X [] (tSs X.K cv W C sub .nil) := pss_nil.to fun D σ H ⟨env, st, φ, re, rs, q⟩ => by
  simp only [Lg.execs] at q
  exact q _ _ (Grow.refl _ _) rs σ re
theorem ss_cons {s : Lg.S} {ss : Lg.Ss} {x : Stmt} {xs : List Stmt} (h1 : PS X x (tS X.K cv W C sub s)) (h2 : PSs X xs (tSs X.K cv W C sub ss)) : PSs X (x :: xs) (tSs X.K cv W C sub (.cons s ss)) :=
  (pss_cons h1 h2).to fun D σ H ⟨env, st, φ, re, rs, q⟩ => by
    simp only [Lg.execs, noexc_bind] at q
    refine ⟨env, st, φ, re, rs, q.bind.imp fun f st1 φ1 H1 g1 rs1 q1 => ?_⟩
    cases f with
    | nx e => exact fun σ' re' => ⟨e, st1, φ1, re', rs1, Pst.noexc_to q1⟩
    | rt d => exact q1 _ _ (Grow.refl _ _) rs1
    | bk e => exact q1 _ _ (Grow.refl _ _) rs1
    | ct e => exact q1 _ _ (Grow.refl _ _) rs1
    | xc c e => exact q1 _ _ (Grow.refl _ _) rs1
theorem ss_set {i : Nat} {y : Str} {px : Pos} {e : Lg.E} {x : Stmt} (h : PS X x (tAsg (tE X.K cv W C e) (gName i))) : PS X x (tS X.K cv W C sub (.assign (.nm i) e)) := h.to fun D σ H ⟨env, st, φ, re, rs, q⟩ => by
  simp only [Lg.exec] at q
  refine tE.fst re rs (Pst.lift re q) fun x dx st1 φ1 H1 g1 re1 rs1 rx q1 => ?_
  simp only [Lg.asg, Lg.noexc, Lg.lift_ok] at q1
  exact q1 _ _ (Grow.refl _ _) rs1 _ (re1.set rx i)
theorem ss_asg {t : Lg.Tg} {e : Lg.E} {tg l : Expr} (he : PE X l (tE X.K cv W C e)) (hg : PG X tg (tG X.K cv W C t)) (hs : swapsWithSole [tg] l pos.line X.env = pure false) (hw : swappedStores [tg] l X.env = pure none) (h1 : (assignEach [tg] X.env).map (·.2) = [assign tg X.env]) :
    PS X (.Assign [tg] l pos) (tS X.K cv W C sub (.assign t e)) := (ps_asg he hg hs hw h1).to fun D σ H ⟨env, st, φ, re, rs, q⟩ => by
  simp only [Lg.exec] at q
  refine tE.fst re rs (Pst.lift re q) fun x dx st1 φ1 H1 g1 re1 rs1 rx q1 => ?_
  refine ⟨dx, env, st1, φ1, rx, re1, rs1, ?_⟩
  cases e2 : Lg.asg C t dx env st1 with
  | ok env2 st2 =>
    rw [e2] at q1
    exact fun φ2 H2 g2 rs2 σ' re' _ => q1 φ2 H2 g2 rs2 σ' re'
  | exc _ _ => rw [e2] at q1; exact q1.elim
  | bad => rw [e2] at q1; exact q1.elim
theorem ss_par {i j : Nat} {x y : Str} {a b : Lg.E} {l r : Expr} {px py pt : Pos} {kt k2 : Nat} {pt2 : Pos} (hc : X.calm = true) (hN : X.N.Nodup) (hi : X.N[i]? = some x) (hj : X.N[j]? = some y) (hij : i ≠ j)
    (hx : X.env.scope.names.lookup x = some .local) (hy : X.env.scope.names.lookup y = some .local) (ha : PA X [l, r] (tA X.K cv W C (.cons a (.cons b .nil))))
    (hw : swappedStores [.Tuple [.Name x px, .Name y py] kt pt] (.Tuple [l, r] k2 pt2) X.env = pure (some [x, y])) :
    PS X (.Assign [.Tuple [.Name x px, .Name y py] kt pt] (.Tuple [l, r] k2 pt2) pos) (tS X.K cv W C sub (.par2 i j a b)) := (ps_par hc hN hi hj hij hx hy ha hw).to fun D σ H ⟨env, st, φ, re, rs, q⟩ => by
  simp only [Lg.exec] at q
  have q := Pst.lift re q
  refine ⟨env, st, φ, re, rs, ?_⟩
  simp only [Lg.evs, Lg.bind_ok]
  cases e1 : Lg.ev C a env st with
  | ok x1 st1 =>
    rw [e1] at q
    simp only [Lg.bind_ok] at q ⊢
    have q := Pst.lift re q
    cases e2 : Lg.ev C b env st1 with
    | ok y1 st2 =>
      rw [e2] at q
      intro φ' H' g rs' vs rv
      cases rv with
      | cons r1 rv =>
        cases rv with
        | cons r2 rv =>
          cases rv
          exact ⟨_, _, rfl, q φ' H' g rs' _ (((re.grow (Grow.h g)).set r1 i).set r2 j)⟩
    | exc _ _ => rw [e2] at q; exact q
    | bad => rw [e2] at q; exact q
  | exc _ _ => rw [e1] at q; exact q
  | bad => rw [e1] at q; exact q
theorem ss_aug {i : Nat} {x : Str} {e : Lg.E} {l : Expr} {p : Pos} (op : Lg.Bop) (hN : X.N.Nodup) (hi : X.N[i]? = some x) (hx : L2.Loc X.env.scope x) (he : PE X l (tE X.K cv W C e)) (hf : X.fn x = true ∨ X.env.scope.names.lookup x = some .local) :
    PS X (.AugAssign (.Name x p) (opB op) l pos) (tS X.K cv W C sub (.aug i op e)) := (ps_aug hN hi hx he (iop_rule op) hf).to fun D σ H ⟨env, st, φ, re, rs, q⟩ => by
  simp only [Lg.exec] at q
  split at q
  · rename_i dx ex
    obtain ⟨v, hv, rv⟩ := re.at_ i dx ex
    refine ⟨v, hv, tE.fst re rs (Pst.lift re q) fun y dy st1 φ1 H1 g1 re1 rs1 ry q1 => ?_⟩
    refine iop_read (cv := cv) (W := W) (σ := σ) rs1 op (rv.grow (Grow.h g1)) ry ?_
    exact (Pst.lift re1 q1).bind.imp fun dz st2 φ2 H2 g2 rs2 q2 z rz => q2 _ _ (Grow.refl _ _) rs2 _ ((re1.grow (Grow.h g2)).set rz i)
  · exact q.elim
theorem ix_get : PGet X (rIx X.K) := by
  intro pins s σ H o i ov iv Q I ro ri h
  rcases h with h | h | h
  · obtain ⟨p, xs, i, z, rfl, rfl, hq, he, q⟩ := h
    cases ro
    obtain ⟨t, rfl⟩ := ri
    obtain ⟨its, r, pl, hz⟩ := I.list hq
    obtain ⟨j, h1, h2, h3, h4, h5⟩ := atI_get he
    obtain ⟨w, ew, rw'⟩ := r.get h2
    have hl := r.length
    have hn := line63
    have fin : EP X pins σ Q w s := ⟨z, H, I, rw', q⟩
    by_cases h0 : 0 ≤ i
    · have hj : i.toNat = j := by
        rw [seqIndex_of h0 h5] at h1
        exact Option.some.inj h1
      exact wpAny_getItem_list pl.isList h0 (by omega) (by rw [hj]; simpa using ew) fin
    · have hj : (i + (its.toArray.size : Int)).toNat = j := by
        rw [seqIndex_neg (by omega) h4] at h1
        rw [List.size_toArray, ← hl]
        exact Option.some.inj h1
      exact wpAny_getItem_list_neg pl.isList (by omega) (by rw [List.size_toArray] <;> omega) (by omega) (by rw [hj]; simpa using ew) fin
  · obtain ⟨p, xs, i, z, rfl, rfl, hq, he, q⟩ := h
    cases ro
    obtain ⟨t, rfl⟩ := ri
    obtain ⟨its, r, pl, hz⟩ := I.tuple hq
    obtain ⟨j, h1, h2, h3, h4, h5⟩ := atI_get he
    obtain ⟨w, ew, rw'⟩ := r.get h2
    have hl := r.length
    have hn := line63
    have fin : EP X pins σ Q w s := ⟨z, H, I, rw', q⟩
    exact getItem_tuple (j := j) pl (by omega) (by omega) (by rw [List.size_toArray, ← hl]; exact h1) (by simpa using ew) fin
  · obtain ⟨z, i, c, rfl, rfl, hz, he, q⟩ := h
    obtain ⟨t, rfl⟩ := ro
    obtain ⟨t', rfl⟩ := ri
    obtain ⟨j, h1, h2, h3, h4, h5⟩ := atI_get he
    have hl : z.cps.toList.length = z.length := by simp [Str.length]
    rw [hl] at h1 h4 h5
    have hn := line63
    exact getItem_str (c := c) (by
      have e1 : decide (i < -(2 ^ 63 : Int)) = false := decide_eq_false (by omega)
      have e2 : decide (i ≥ 2 ^ 63) = false := decide_eq_false (by omega)
      rw [e1, e2, Bool.or_false]) (by rw [h1]; simpa using h2) ⟨.str ⟨#[c]⟩, H, I.tok _, ⟨_, rfl⟩, q⟩
theorem ss_setf {o e : Lg.E} {f : String} {l v : Expr} {p : Pos} (ho : PE X l (tE X.K cv W C o)) (he : PE X v (tE X.K cv W C e)) (hs : swapsWith v (some (.Attribute l (Str.ofString f) p)) pos.line X.env = pure false) :
    PS X (.Assign [.Attribute l (Str.ofString f) p] v pos) (tS X.K cv W C sub (.setf o f e)) := (ps_fld ho he hs).to fun D σ H ⟨env, st, φ, re, rs, q⟩ => by
  simp only [Lg.exec] at q
  refine tE.fst re rs (Pst.lift re q) fun y dy st1 φ1 H1 g1 re1 rs1 ry q1 => ?_
  refine tE.fst re1 rs1 (Pst.lift re1 q1) fun x dx st2 φ2 H2 g2 re2 rs2 rx q2 => ?_
  obtain ⟨a, c, dd, fs, h1, h2, h3, h4, h5, _, h6⟩ := setF_read (Q := D.nx σ) rs2 rx (ry.grow (Grow.h g2)) ((Pst.lift re2 q2).bind.imp fun u st3 φ3 H3 g3 rs3 q4 => q4 _ _ (Grow.refl _ _) rs3 σ (re2.grow (Grow.h g3)))
  exact ⟨a, _, dd, fs, h1, h2, h3, h4, h5, h6⟩
theorem ss_augf {o e : Lg.E} {f : String} {l v : Expr} {p : Pos} (op : Lg.Bop) (ho : PE X l (tE X.K cv W C o)) (he : PE X v (tE X.K cv W C e)) :
    PS X (.AugAssign (.Attribute l (Str.ofString f) p) (opB op) v pos) (tS X.K cv W C sub (.augf o f op e)) := (ps_fldaug ho he (iop_rule op)).to fun D σ H ⟨env, st, φ, re, rs, q⟩ => by
  simp only [Lg.exec] at q
  refine tE.fst re rs (Pst.lift re q) fun x dx st1 φ1 H1 g1 re1 rs1 rx q1 => ?_
  obtain ⟨a, c, dd, fs, u, du, h1, h2, h3, h4, h5, h6, h7, q2⟩ := fld_bind rs1 rx (Pst.lift re1 q1)
  refine ⟨a, _, dd, fs, u, h1, h2, h3, h4, h5, ?_⟩
  refine tE.fst re1 rs1 (Pst.lift re1 q2) fun y dy st3 φ3 H3 g3 re3 rs3 ry q3 => ?_
  refine iop_read (cv := cv) (W := W) (σ := σ) rs3 op (h6.grow (Grow.h g3)) ry ((Pst.lift re3 q3).bind.imp fun dz st4 φ4 H4 g4 rs4 q4 z rz => ?_)
  have re4 := re3.grow (Grow.h g4)
  have q5 := Pst.lift re4 q4
  split at q5
  · rename_i hc
    obtain ⟨a', c', dd', fs', k1, k2, k3, k4, k5, k6, k7⟩ := setF_read (Q := D.nx σ) rs4 ((rx.grow (Grow.h g3)).grow (Grow.h g4)) rz (q5.bind.imp fun u st5 φ5 H5 g5 rs5 q6 => q6 _ _ (Grow.refl _ _) rs5 σ (re4.grow (Grow.h g5)))
    have e1 : c' = c := by rw [hc, k6] at h7; exact (Option.some.inj h7)
    have e2 : a' = a := by rw [h1] at k1; cases k1; rfl
    subst e1 e2
    exact ⟨dd', fs', k2, k5, k7⟩
  · exact q5.elim
theorem ss_augi {o i e : Lg.E} {l r v : Expr} {p : Pos} (op : Lg.Bop) (hsl : noSlice r = true) (ho : PE X l (tE X.K cv W C o)) (hi : PE X r (tE X.K cv W C i)) (he : PE X v (tE X.K cv W C e)) :
    PS X (.AugAssign (.Subscript l r p) (opB op) v pos) (tS X.K cv W C sub (.augi o i op e)) := (ps_augS ho hi ix_get he (iop_rule op) set_list (fun ov iv new => by cases r <;> first | rfl | cases hsl)).to fun D σ H ⟨env, st, φ, re, rs, q⟩ => by
  simp only [Lg.exec] at q
  refine tE.fst re rs (Pst.lift re q) fun x dx st1 φ1 H1 g1 re1 rs1 rx q1 => ?_
  refine tE.fst re1 rs1 (Pst.lift re1 q1) fun j dj st2 φ2 H2 g2 re2 rs2 rj q2 => ?_
  refine ix_read rs2 (rx.grow (Grow.h g2)) rj ((Pst.lift re2 q2).bind.imp fun du st3 φ3 H3 g3 rs3 q3 u ru => ?_)
  have re3 := re2.grow (Grow.h g3)
  refine tE.fst re3 rs3 (Pst.lift re3 q3) fun y dy st4 φ4 H4 g4 re4 rs4 ry q4 => ?_
  refine iop_read (cv := cv) (W := W) (σ := σ) rs4 op (ru.grow (Grow.h g4)) ry ((Pst.lift re4 q4).bind.imp fun dz st5 φ5 H5 g5 rs5 q5 z rz => ?_)
  have re5 := re4.grow (Grow.h g5)
  exact set_read rs5 ((((rx.grow (Grow.h g2)).grow (Grow.h g3)).grow (Grow.h g4)).grow (Grow.h g5)) (((rj.grow (Grow.h g3)).grow (Grow.h g4)).grow (Grow.h g5)) rz
    ((Pst.lift re5 q5).bind.imp fun u st6 φ6 H6 g6 rs6 q6 => q6 _ _ (Grow.refl _ _) rs6 σ (re5.grow (Grow.h g6)))
theorem ss_expr {e : Lg.E} {l : Expr} (he : PE X l (tE X.K cv W C e)) (hs : swapsWith l none pos.line X.env = pure false) : PS X (.Expr l pos) (tS X.K cv W C sub (.expr e)) := (ps_expr he hs).to fun D σ H ⟨env, st, φ, re, rs, q⟩ => by
  simp only [Lg.exec] at q
  exact tE.fst re rs (Pst.lift re q) fun x dx st1 φ1 H1 g1 re1 rs1 rx q1 => q1 _ _ (Grow.refl _ _) rs1 _ re1
theorem ss_ret {e : Lg.E} {l : Expr} (he : PE X l (tE X.K cv W C e)) : PS X (.Return (some l) pos) (tS X.K cv W C sub (.ret e)) := (ps_ret he).to fun D σ H ⟨env, st, φ, re, rs, q⟩ => by
  simp only [Lg.exec] at q
  exact tE.fst re rs (Pst.lift re q) fun x dx st1 φ1 H1 g1 re1 rs1 rx q1 => q1 _ _ (Grow.refl _ _) rs1 _ rx
theorem ss_ret0 : PS X (.Return none pos) (tS X.K cv W C sub .ret0) := ps_retN.to fun D σ H ⟨env, st, φ, re, rs, q⟩ => by
  simp only [Lg.exec] at q
  exact q _ _ (Grow.refl _ _) rs _ .non
theorem ss_stop {x : Stmt} : PS X x (tS X.K cv W C sub .stop) := ⟨fun pins s σ H D I ⟨env, st, φ, re, rs, q⟩ => by
  simp only [Lg.exec] at q
  exact q.elim⟩
theorem ss_pass : PS X (.Pass pos) (tS X.K cv W C sub .pass) := ps_pass.to fun D σ H ⟨env, st, φ, re, rs, q⟩ => by
  simp only [Lg.exec] at q
  exact q _ _ (Grow.refl _ _) rs _ re
theorem ss_brk : PS X (.Break pos) (tS X.K cv W C sub .brk) := ps_break.to fun D σ H ⟨env, st, φ, re, rs, q⟩ => by
  simp only [Lg.exec] at q
  exact q _ _ (Grow.refl _ _) rs _ re
theorem ss_cont : PS X (.Continue pos) (tS X.K cv W C sub .cont) := ps_continue.to fun D σ H ⟨env, st, φ, re, rs, q⟩ => by
  simp only [Lg.exec] at q
  exact q _ _ (Grow.refl _ _) rs _ re
theorem ss_ite {c : Lg.E} {a b : Lg.Ss} {t : Expr} {x y : List Stmt} (hc : PT X t (tT X.K cv W C c)) (ha : PSs X x (tSs X.K cv W C sub a)) (hb : PSs X y (tSs X.K cv W C sub b)) : PS X (.If t x y pos) (tS X.K cv W C sub (.ite c a b)) :=
  (ps_if hc ha hb).to fun D σ H ⟨env, st, φ, re, rs, q⟩ => by
    simp only [Lg.exec] at q
    refine tT.fst re rs (Pst.lift re q) fun b st1 φ1 H1 g1 re1 rs1 q1 => ?_
    cases b with
    | true => simp only [if_true] at q1 ⊢; exact ⟨env, st1, φ1, re1, rs1, q1⟩
    | false => simp only [Bool.false_eq_true, if_false] at q1 ⊢; exact ⟨env, st1, φ1, re1, rs1, q1⟩
theorem ss_while {c : Lg.E} {b : Lg.Ss} {t : Expr} {x : List Stmt} (hp : PassesOwn (model X.prog X.w) X.A X.env X.xe) (hc : PT X t (tT X.K cv W C c)) (hb : PSs X x (tSs X.K cv W C sub b)) : PS X (.While t x [] pos) (tS X.K cv W C sub (.while c b)) :=
  (ps_while hp hc hb).to fun D σ H ⟨env, st, φ, re, rs, q⟩ => by
    simp only [Lg.exec] at q
    have hn : Lg.whileS (Lg.evt C c) (Lg.execs C sub b) env st ≠ .bad := fun e => by rw [e] at q; exact q
    obtain ⟨n, hn⟩ := Lg.whileS_some hn
    rw [← hn] at q
    refine ⟨fun m σ H => ∃ env st φ, REnv X.K φ H σ env ∧ RepSt X.K φ H st ∧ Pst X.K cv W σ φ H (Lg.noexc (Lg.whileN (Lg.evt C c) (Lg.execs C sub b) m env st)) (kF X.K cv W D), ⟨n, env, st, φ, re, rs, q⟩, ?_⟩
    clear hn q re rs
    rintro m σ H ⟨env, st, φ, re, rs, q⟩
    cases m with
    | zero => exact q.elim
    | succ m =>
      simp only [Lg.whileN] at q
      refine tT.fst re rs (Pst.lift re q) fun d st1 φ1 H1 g1 re1 rs1 q1 => ?_
      cases d with
      | false => simp only [Bool.false_eq_true, if_false] at q1 ⊢; exact q1 _ _ (Grow.refl _ _) rs1 _ re1
      | true =>
        simp only [if_true] at q1 ⊢
        refine ⟨_, fun σ' H' h => ⟨m, Nat.lt_succ_self m, h⟩, env, st1, φ1, re1, rs1, ?_⟩
        rw [noexc_bind] at q1
        refine q1.bind.imp fun f st2 φ2 H2 g2 rs2 q2 => ?_
        cases f with
        | nx e => exact fun σ' re' => ⟨e, st2, φ2, re', rs2, Pst.noexc_to q2⟩
        | ct e => exact fun σ' re' => ⟨e, st2, φ2, re', rs2, Pst.noexc_to q2⟩
        | bk e => exact q2 _ _ (Grow.refl _ _) rs2
        | rt d => exact q2 _ _ (Grow.refl _ _) rs2
        | xc c e => exact q2 _ _ (Grow.refl _ _) rs2
/-- a for: the walk stays while the cells stay -/
theorem ss_for {t : Lg.Tg} {it : Lg.It} {b : Lg.Ss} {g i : Expr} {x : List Stmt} (hp : PassesOwn (model X.prog X.w) X.A X.env X.xe) (hc : X.calm = true) (hs : noSet i = true) (hi : PI X g i (tI X.K cv W C it)) (hg : PG X g (tG X.K cv W C t)) (hb : PSs X x (tSs X.K cv W C sub b)) :
    PS X (.For g i x [] pos) (tS X.K cv W C sub (.for t it b)) := (ps_for hp hc hi hg hb (fset hs)).to fun D σ H ⟨env, st, φ, re, rs, q⟩ => by
  simp only [Lg.exec] at q
  refine ⟨env, st, φ, re, rs, (Pst.lift re q).bind.imp fun w st1 φ1 H1 g1 rs1 q1 J hJ => ?_⟩
  refine ⟨fun i m σ H => m = w.items.length - i ∧ i ≤ w.items.length ∧ ∃ env st φ2, Grow φ1 H1 φ2 H ∧ REnv X.K φ2 H σ env ∧ RepSt X.K φ2 H st ∧ Pst X.K cv W σ φ2 H (Lg.noexc (Lg.forL w.keep (Lg.asg C t) (Lg.execs C sub b) (w.items.drop i) env st)) (kF X.K cv W D),
    ⟨w.items.length, by simp, Nat.zero_le _, env, st1, φ1, Grow.refl _ _, re.grow (Grow.h g1), rs1, q1⟩, ?_⟩
  clear q1 q re rs
  rintro i m σ H2 ⟨rfl, hi, env, st, φ2, gr, re, rs, q⟩
  by_cases hlt : i < w.items.length
  · right
    rw [List.drop_eq_getElem_cons hlt] at q
    simp only [Lg.forL] at q
    split at q
    · rename_i hk
      obtain ⟨_, hit⟩ := hJ _ H2 st (Grow.h gr) rs hk
      obtain ⟨go, yl⟩ := hit i _ (List.getElem?_eq_getElem hlt)
      refine ⟨go, _, fun σ' H' h => ⟨w.items.length - (i + 1), by omega, h⟩, fun x H3 y => ?_⟩
      obtain ⟨g3, rs3, rx⟩ := yl x H3 y
      rw [noexc_bind] at q
      refine ⟨_, env, st, φ2, rx, re.grow (Grow.h g3), rs3, ?_⟩
      have q := Pst.grow q g3
      cases e2 : Lg.asg C t w.items[i] env st with
      | ok env2 st2 =>
        rw [e2] at q
        intro φ4 H4 g4 rs4 σ4 re4 _
        refine ⟨env2, st2, φ4, re4, rs4, ?_⟩
        have q := Pst.grow (show Pst X.K cv W σ φ2 H3 (Lg.noexc ((Lg.execs C sub b env2 st2).bind _)) _ from q) g4
        rw [noexc_bind] at q
        have q : Pst X.K cv W σ4 φ4 H4 (Lg.noexc (Lg.execs C sub b env2 st2)) _ := Pst.noexc_to q.bind
        refine q.imp fun f st5 φ5 H5 g5 rs5 q5 => ?_
        have gg : Grow φ1 H1 φ5 H5 := ((gr.trans g3).trans g4).trans g5
        cases f with
        | nx e => exact fun σ' re' => ⟨rfl, hlt, e, st5, φ5, gg, re', rs5, Pst.noexc_to q5⟩
        | ct e => exact fun σ' re' => ⟨rfl, hlt, e, st5, φ5, gg, re', rs5, Pst.noexc_to q5⟩
        | bk e => exact q5 _ _ (Grow.refl _ _) rs5
        | rt d => exact q5 _ _ (Grow.refl _ _) rs5
        | xc c e => exact q5 _ _ (Grow.refl _ _) rs5
      | exc _ _ => rw [e2] at q; exact q.elim
      | bad => rw [e2] at q; exact q.elim
    · exact q.elim
  · left
    have hi' : i = w.items.length := by omega
    subst hi'
    rw [List.drop_length] at q
    simp only [Lg.forL] at q
    split at q
    · rename_i hk
      obtain ⟨stop, _⟩ := hJ _ H2 st (Grow.h gr) rs hk
      exact ⟨stop, q _ _ (Grow.refl _ _) rs _ re⟩
    · exact q.elim
theorem ss_raise {c : String} {as : List Expr} {e : Expr} (hc : X.calm = true) (tk : Takes X W) (he : PMk X e (fun _ H Q => Q (cv c) none H)) : PS X (.Raise (some e) none pos) (tS X.K cv W C sub (.raise c)) := (ps_raise hc tk he).to fun D σ H ⟨env, st, φ, re, rs, q⟩ => by
  simp only [Lg.exec] at q
  exact q _ _ (Grow.refl _ _) rs σ re
theorem ss_try {b : Lg.Ss} {c : String} {h : Lg.Ss} {Ca : Addr} {body suite : List Stmt} {b₀ : Stmt} {np pos' : Pos} (hs : X.stack = X.env :: X.outer) (hf : X.env.frame = some X.env.locals) (hn : Names X (Str.ofString c) (.ref Ca)) (ecv : cv c = .ref Ca) (tk : Takes X W)
    (hsub : ∀ c' r, sub c' c = some r → PySem.W.exmOne X.K (cv c') (cv c) = some r)
    (hb : ∀ (W : WX) (pn : List (Addr × Obj)) (xe : Value → Shared → Prop), Takes (X.tr pn xe) W → PassesOwn (model X.prog X.w) X.A X.env xe → PSs (X.tr pn xe) body (tSs X.K cv W C sub b))
    (hsu : ∀ (a : Addr) (pn : List (Addr × Obj)), PSs (X.suite a pn) (b₀ :: suite) (tSs X.K cv WF C sub h)) :
    PS X (.Try body [.ExceptHandler (some (.Name (Str.ofString c) np)) none (b₀ :: suite) pos'] [] [] pos) (tS X.K cv W C sub (.tryx b c h)) :=
  (ps_try_only (tb := fun W => tSs X.K cv W C sub b) (ts := fun _ _ _ => tSs X.K cv WF C sub h) hs hf hn tk hb (fun a oe cls d pn _ _ => hsu a _)).to fun D σ H ⟨env, st, φ, re, rs, q⟩ => by
    simp only [Lg.exec, noexc_bind] at q
    refine ⟨env, st, φ, re, rs, Pst.noexc_to (W := W) (σ := σ) (q.bind.imp fun f st1 φ1 H1 g1 rs1 q1 => ?_)⟩
    cases f with
    | nx e => exact q1 _ _ (Grow.refl _ _) rs1
    | rt d => exact q1 _ _ (Grow.refl _ _) rs1
    | bk e => exact q1 _ _ (Grow.refl _ _) rs1
    | ct e => exact q1 _ _ (Grow.refl _ _) rs1
    | xc c' e =>
      simp only at q1
      split at q1
      · rename_i es
        intro σ' re'
        refine ⟨true, by rw [← ecv]; exact hsub _ _ es, fun _ a _ => ⟨e, st1, φ1, re', rs1, ?_⟩, fun z => (by cases z)⟩
        rw [noexc_bind] at q1
        refine Pst.noexc_to (W := W) (σ := σ) (q1.bind.imp fun f st2 φ2 H2 g2 rs2 q2 => ?_)
        cases f with
        | xc c2 e2 => exact q2.elim
        | nx e => exact q2 _ _ (Grow.refl _ _) rs2
        | rt d => exact q2 _ _ (Grow.refl _ _) rs2
        | bk e => exact q2 _ _ (Grow.refl _ _) rs2
        | ct e => exact q2 _ _ (Grow.refl _ _) rs2
      · rename_i es
        exact fun σ' re' => ⟨false, by rw [← ecv]; exact hsub _ _ es, fun z => (by cases z), fun _ => q1 _ _ (Grow.refl _ _) rs1 σ' re'⟩
      · exact q1.elim
end
/-! ### what is asked of a caught error -/
def ClsO (mg : Str → Option Value) (d : String) (c : V) (u : Value) : Prop := (∃ Ca, mg (Str.ofString d) = some (.ref Ca) ∧ c = .ref Ca ∧ u = .ref Ca) ∨ (d = "ValueError" ∧ mg (Str.ofString d) = none ∧ c = .ty "ValueError" ∧ u = .type "ValueError")
def IsF (K : PySem.W.Frag) (mg : Str → Option Value) (v : Value) (d : String) (b : Bool) : Prop := ∃ Da c u, v = .ref Da ∧ ExcC K Da ∧ ClsO mg d c u ∧ PySem.W.kitOne K (.ref Da) u = some b
theorem ClsO.cls {mg : Str → Option Value} {d : String} {c : V} {u : Value} (h : ClsO mg d c u) : ClsV c u := by
  rcases h with ⟨Ca, _, rfl, rfl⟩ | ⟨_, _, rfl, rfl⟩
  · exact .own Ca
  · exact .ty _
def tH (K : PySem.W.Frag) (cv : String → Value) (W : WX) (i : Nat) (a : Addr) (d : Lg.D) : TE := fun σ H Q => σ[i]? = some (some (.ref a)) ∧ ∃ st φ, RepSt K φ H st ∧ Pst K cv W σ φ H (.ok d st) (kQ K Q)
/-- isinstance(e, (c1, c2)), e the error that the suite holds -/
def rIsE2 (K : PySem.W.Frag) (D a : Addr) : List V → Hp → VK → Prop := fun xs H Q => ∃ (tp : Addr) (cs : List V) (us : List Value) (b : Bool), xs = [.ref a, .ref tp] ∧ H tp = some (.tup cs) ∧ Paired ClsV cs us ∧ PySem.W.kitAny K (.ref D) us = some b ∧ Q (.bl b) H
section
variable {X : L2.Cx} {a : Addr} {oe : Obj} {pn : List (Addr × Obj)} {cv : String → Value} {W : WX}
theorem held {D : Addr} (hz : Zc (.ref D) none oe) (hf : ∃ vs, oe.data = .fields vs) {pins : List (Addr × Obj)} {σ : L2.St} {H : Hp} {s : Shared} (I : Inv (X.suite a ((a, oe) :: pn)) pins σ H s) : PySem.W.InstAt s.heap a oe D none := by
  obtain ⟨g, _⟩ := I.pin (a, oe) (List.mem_append_left _ List.mem_cons_self)
  obtain ⟨vs, hv⟩ := hf
  cases oe
  obtain ⟨z1, z2⟩ := hz
  simp only at z1 z2 hv
  subst z1 z2 hv
  exact ⟨g, rfl, rfl, trivial⟩
theorem call_isE2 {D : Addr} (C : ExcC X.K D) (hz : Zc (.ref D) none oe) (hf : ∃ vs, oe.data = .fields vs) : CallR (X.suite a ((a, oe) :: pn)) (.builtin "isinstance") (rIsE2 X.K D a) := by
  intro pins s σ H xs us Q I r ⟨tp, cs, ws, b, hxs, hT, k, e, q⟩
  subst hxs
  obtain ⟨u1, u2, rfl, r1, r2⟩ := vals2 r
  cases r1
  cases (show u2 = Value.ref tp from r2)
  obtain ⟨_, its, rv, ob, g1, g2, m, g3⟩ := (show ObjOk X.prog X.w H s.heap tp (.tup cs) from I.hok tp _ hT)
  have ew := ClsV.all k rv
  subst ew
  cases ob
  simp only at g2 g3
  subst g2 g3
  exact PySem.W.kia_tup (PySem.W.handS_kitx_exc C.hg C.hk C.hs C.hd C.ha C.hn C.ht C.hm) I.kIn (held hz hf I) g1 e (fun z => nomatch z) fun tk => ⟨.bl b, H, I.tok tk, rfl, q⟩
theorem cls_pe {S : SC} {d : String} {y : Str} {c : V} {u : Value} {p2 : Pos} (hgl : ∀ x, glb S.sc x = true → Gl X x) (h : ClsO X.mg d c u) (hk : okCls S y d = true) : PE X (.Name y p2) (tC c) := by
  unfold okCls at hk
  simp only [Bool.and_eq_true, decide_eq_true_eq] at hk
  obtain ⟨⟨⟨rfl, g1⟩, g2⟩, _⟩ := hk
  rcases h with ⟨Ca, m, rfl, _⟩ | ⟨rfl, m, rfl, _⟩
  · exact pe_glob (hgl _ g1) m rfl (by
      unfold okName at g2
      simp only [Bool.and_eq_true, Bool.not_eq_true'] at g2
      exact g2.1)
  · exact pe_bltn (u := .type "ValueError") (hgl _ g1) m (by decide +kernel) rfl (by decide) (by decide)
theorem and2 {l r : Expr} {rest : List Expr} {pos : Pos} {i : Nat} {b1 b2 : Bool} (ha : PE X l (tH X.K cv W i a (.bl b1))) (hb : b1 = true → PE X (tailB .And r rest pos) (tH X.K cv W i a (.bl b2))) (hb2 : b1 = false → b2 = false) : PE X (.BoolOp .And (l :: r :: rest) pos) (tH X.K cv W i a (.bl b2)) := by
  have nx : ∀ {σ : L2.St} {H : Hp} {Q Q' : VK}, tH X.K cv W i a (.bl b2) σ H Q → (∀ H1, (∃ φ1 st1, RepSt X.K φ1 H1 st1 ∧ Pst X.K cv W σ φ1 H1 (.ok (.bl b2) st1) (kQ X.K Q)) → Q' (.bl b1) H1) → tH X.K cv W i a (.bl b1) σ H Q' := by
    rintro σ H Q Q' ⟨e, st, φ, rs, q⟩ h
    refine ⟨e, st, φ, rs, fun φ1 H1 g rs1 v rv => ?_⟩
    cases rv
    exact h H1 ⟨φ1, st, rs1, q.grow g⟩
  cases b1 with
  | true =>
    refine (pe_andT ha (pe_tail (hb rfl))).to fun σ H Q q => nx q fun H1 ⟨φ1, st1, rs1, q1⟩ => ⟨true, rfl, ?_⟩
    rw [if_pos rfl]
    exact ⟨q.1, st1, φ1, rs1, q1⟩
  | false =>
    have e2 := hb2 rfl
    subst e2
    have no : PE X (.BoolOp .And (r :: rest) pos) (fun _ _ _ => False) := ⟨fun _ _ _ _ _ _ z => z.elim⟩
    refine (pe_andT ha no).to fun σ H Q q => nx q fun H1 ⟨φ1, st1, rs1, q1⟩ => ⟨false, rfl, ?_⟩
    rw [if_neg Bool.false_ne_true]
    exact q1.here rs1 _ (.bl _)
theorem he_ok {S : SC} {n : Str} {i : Nat} {sub : String → String → Option Bool} {c' : String} {v : Value} (hz : Zc v none oe) (hf : ∃ vs, oe.data = .fields vs) (hN : X.N[i]? = some n) (hln : X.env.scope.names.lookup n = some .local) (hok : okName n = true)
    (hgl : ∀ x, glb S.sc x = true → Gl X x) (hm : X.mg ("isinstance" : Str) = none) (hq : ∀ d b, sub c' ("?" ++ d) = some b → IsF X.K X.mg v d b) :
    ∀ (h : Lg.HE) (b : Bool) (l : Expr), Lg.hev sub c' h = some b → chkHE S n h l = true → PE (X.suite a ((a, oe) :: pn)) l (tH X.K cv W i a (.bl b)) := by
  have hv : ∀ p : Pos, PE (X.suite a ((a, oe) :: pn)) (.Name n p) (tVar i) := fun p => pe_var hN (.inl hln) (okName1 hok) (okName2 hok)
  have hgl' : ∀ x, glb S.sc x = true → Gl (X.suite a ((a, oe) :: pn)) x := fun x hx => hgl x hx
  intro h
  induction h with
  | isx cs =>
    intro b l e c
    unfold chkHE at c
    split at c <;> try contradiction
    · rename_i c1 x px e1 y py pos eq
      cases eq
      simp only [Bool.and_eq_true, decide_eq_true_eq] at c
      obtain ⟨⟨⟨rfl, g1⟩, g2⟩, g3⟩ := c
      have e2 : sub c' ("?" ++ c1) = some b := by
        simp only [Lg.hev, List.map_cons, List.map_nil] at e
        cases e3 : sub c' ("?" ++ c1) with
        | none => rw [e3] at e; simp [Lg.anyO] at e
        | some b' => rw [e3] at e; cases b' <;> simp_all [Lg.anyO]
      obtain ⟨Da, c, u, rfl, C, k, ek⟩ := hq _ _ e2
      cases e1 with
      | Name n' p1 =>
        simp only [isNm1, decide_eq_true_eq] at g2
        subst g2
        refine (pe_callB (call_isE C hz hf) (hgl' _ g1) hm (by decide +kernel) (pa_cons (hv p1) (pa_cons (cls_pe hgl' (X := X.suite a ((a, oe) :: pn)) k g3) pa_nil) rfl) (by decide) (by decide) rfl rfl).to fun σ H Q ⟨e, st, φ, rs, q⟩ => ?_
        refine ⟨_, e, ?_⟩
        exact ⟨c, u, b, rfl, fun w r => k.cls.eq r, ek, q.here rs _ (.bl _)⟩
      | _ => simp [isNm1] at g2
    · rename_i c1 c2 x px e1 y py z pz kt pt pos eq
      cases eq
      simp only [Bool.and_eq_true, decide_eq_true_eq] at c
      obtain ⟨⟨⟨⟨rfl, g1⟩, g2⟩, g3⟩, g4⟩ := c
      have e2 : ∃ b1 b2, sub c' ("?" ++ c1) = some b1 ∧ sub c' ("?" ++ c2) = some b2 ∧ (b1 || b2) = b := by
        simp only [Lg.hev, List.map_cons, List.map_nil] at e
        cases e3 : sub c' ("?" ++ c1) with
        | none => rw [e3] at e; simp [Lg.anyO] at e
        | some b1 =>
          cases e4 : sub c' ("?" ++ c2) with
          | none => rw [e3, e4] at e; simp [Lg.anyO] at e
          | some b2 => rw [e3, e4] at e; simp [Lg.anyO] at e; exact ⟨b1, b2, rfl, rfl, e⟩
      obtain ⟨b1, b2, f1, f2, rfl⟩ := e2
      obtain ⟨Da, c, u, rfl, C, k, ek⟩ := hq _ _ f1
      obtain ⟨Da', c', u', eD, C', k', ek'⟩ := hq _ _ f2
      cases eD
      cases e1 with
      | Name n' p1 =>
        simp only [isNm1, decide_eq_true_eq] at g2
        subst g2
        have tp : PE (X.suite a ((a, oe) :: pn)) (.Tuple [.Name y py, .Name z pz] kt pt) _ := pe_tup (pa_cons (cls_pe hgl' (X := X.suite a ((a, oe) :: pn)) k g3) (pa_cons (cls_pe hgl' (X := X.suite a ((a, oe) :: pn)) k' g4) pa_nil))
        refine (pe_callB (call_isE2 C hz hf) (hgl' _ g1) hm (by decide +kernel) (pa_cons (hv p1) (pa_cons tp pa_nil) rfl) (by decide) (by decide) rfl rfl).to fun σ H Q ⟨e, st, φ, rs, q⟩ => ?_
        refine ⟨_, e, ?_⟩
        refine ⟨by show 2 ≤ PySem.sizeLine; rw [sizeLine_eq]; decide, fun p hp => ?_⟩
        obtain ⟨g, rs'⟩ := rs.lay hp (.tup [c, c'])
        refine ⟨p, [c, c'], [u, u'], b1 || b2, rfl, upd_same, .cons k.cls (.cons k'.cls .nil), ?_, q φ _ g rs' _ (.bl _)⟩
        refine kitAny_cons ek (fun h1 => kitAny_cons ek' (fun h2 => ?_) fun h2 => ?_) fun h1 => ?_
        · rw [h1, h2]; exact kitAny_nil
        · rw [h2, Bool.or_true]
        · rw [h1, Bool.true_or]
      | _ => simp [isNm1] at g2
  | hnot h ih =>
    intro b l e c
    unfold chkHE at c
    split at c <;> try contradiction
    rename_i eq
    cases eq
    simp only [Lg.hev, Option.map_eq_some_iff] at e
    obtain ⟨b1, e1, rfl⟩ := e
    refine (pe_notT (ih b1 _ e1 c)).to fun σ H Q ⟨e, st, φ, rs, q⟩ => ⟨e, st, φ, rs, fun φ1 H1 g rs1 v rv => ?_⟩
    cases rv
    exact ⟨b1, rfl, q φ1 H1 g rs1 _ (.bl _)⟩
  | hand h1 h2 ih1 ih2 =>
    intro b l e c
    unfold chkHE at c
    split at c <;> try contradiction
    rename_i eq
    cases eq
    simp only [Bool.and_eq_true] at c
    simp only [Lg.hev] at e
    split at e
    · rename_i e1
      exact and2 (ih1 true _ e1 c.1) (fun _ => ih2 b _ e c.2) (fun z => by cases z)
    · rename_i e1
      cases e
      exact and2 (ih1 false _ e1 c.1) (fun z => by cases z) (fun _ => rfl)
    · cases e
theorem hr_ok {S : SC} {n : Str} {i : Nat} {sub : String → String → Option Bool} {c' : String} {v : Value} (hz : Zc v none oe) (hf : ∃ vs, oe.data = .fields vs) (hN : X.N[i]? = some n) (hln : X.env.scope.names.lookup n = some .local) (hok : okName n = true)
    (hgl : ∀ x, glb S.sc x = true → Gl X x) (hm : X.mg ("isinstance" : Str) = none) (hq : ∀ d b, sub c' ("?" ++ d) = some b → IsF X.K X.mg v d b) :
    ∀ (x : Lg.HR) (d : Lg.D) (l : Expr), Lg.hrv sub c' x = some d → chkHR S n x l = true → PE (X.suite a ((a, oe) :: pn)) l (tH X.K cv W i a d) := by
  intro x d l e c
  cases x with
  | b h =>
    simp only [Lg.hrv, Option.map_eq_some_iff] at e
    obtain ⟨b, e1, rfl⟩ := e
    exact he_ok hz hf hN hln hok hgl hm hq h b _ e1 (by simpa only [chkHR] using c)
  | lb s h =>
    simp only [Lg.hrv, Option.map_eq_some_iff] at e
    obtain ⟨b, e1, rfl⟩ := e
    unfold chkHR at c
    split at c <;> try contradiction
    cases ‹Lg.HR.lb s h = _›
    simp only [Bool.and_eq_true, decide_eq_true_eq] at c
    obtain ⟨⟨rfl, c1⟩, c2⟩ := c
    have hv := he_ok (cv := cv) (W := W) (a := a) (pn := pn) hz hf hN hln hok hgl hm hq h b _ e1 c2
    refine (pe_lst (pa_cons pe_str (pa_cons hv pa_nil (star_cons c1)))).to fun σ H Q ⟨e, st, φ, rs, q⟩ => ?_
    refine ⟨e, st, φ, rs, fun φ1 H1 g rs1 w rw_ => ?_⟩
    cases rw_
    refine ⟨by show 2 ≤ PySem.sizeLine; rw [sizeLine_eq]; decide, ?_⟩
    exact new_scr (W := W) (σ := σ) rs1 (.cons (.str s) (.cons (.bl b) .nil)) (q.grow g)
end
section
variable {X : L2.Cx} {a : Addr} {oe : Obj} {pn : List (Addr × Obj)} {cv : String → Value} {W : WX}
/-- g = x; return [s, g and y] -/
theorem hr2_ok {S : SC} {n g : Str} {i j : Nat} {sub : String → String → Option Bool} {c' : String} {v : Value} (hz : Zc v none oe) (hf : ∃ vs, oe.data = .fields vs) (nd : X.N.Nodup) (hN : X.N[i]? = some n) (hln : X.env.scope.names.lookup n = some .local) (hok : okName n = true)
    (hM : X.N[j]? = some g) (hlg : X.env.scope.names.lookup g = some .local) (hokg : okName g = true) (hloc : L2.Loc X.env.scope g) (hij : i ≠ j) (hvs : Vis X.env.scope g)
    (hgl : ∀ x, glb S.sc x = true → Gl X x) (hm : X.mg ("isinstance" : Str) = none) (hq : ∀ d b, sub c' ("?" ++ d) = some b → IsF X.K X.mg v d b)
    {x y : Lg.HE} {s : String} {b : Bool} {l w : Expr} {ws : List Expr} {pg p1 p2 p3 p4 bp p5 : Pos} {jj : Nat} (e : Lg.hev2 sub c' x y = some b) (hl : chkHE S n x l = true) (hr : chkHE S n y (tailB .And w ws bp) = true) (hsw : swapsWith l (some (.Name g pg)) p1.line X.env = pure false) :
    PSs (X.suite a ((a, oe) :: pn)) [.Assign [.Name g pg] l p1, .Return (some (.List [.Constant (.str (Str.ofString s)) jj p2, .BoolOp .And (.Name g p3 :: w :: ws) bp] p4)) p5] (fun D σ H => j < σ.length ∧ tH X.K cv W i a (.scr [.str s, .bl b]) σ H D.rt) := by
  have e' : ∃ b1 b2, Lg.hev sub c' x = some b1 ∧ (b1 = true → Lg.hev sub c' y = some b2) ∧ (b1 = false → b2 = false) ∧ b = b2 := by
    unfold Lg.hev2 at e
    split at e
    · rename_i e1; exact ⟨true, b, e1, fun _ => e, fun z => (by cases z), rfl⟩
    · rename_i e1; cases e; exact ⟨false, false, e1, fun z => (by cases z), fun _ => rfl, rfl⟩
    · cases e
  obtain ⟨b1, b2, e1, e2, e3, rfl⟩ := e'
  have h1 : PE (X.suite a ((a, oe) :: pn)) l (tH X.K cv W i a (.bl b1)) := he_ok hz hf hN hln hok hgl hm hq x b1 _ e1 hl
  have hv : PE (X.suite a ((a, oe) :: pn)) (.Name g p3) (tVar j) := pe_var hM hvs (okName1 hokg) (okName2 hokg)
  -- g, in its slot
  have hg : PE (X.suite a ((a, oe) :: pn)) (.Name g p3) (fun σ H Q => σ[j]? = some (some (.bl b1)) ∧ Q (.bl b1) H) := hv.to fun σ H Q ⟨h1, h2⟩ => ⟨_, h1, h2⟩
  have hand : PE (X.suite a ((a, oe) :: pn)) (.BoolOp .And (.Name g p3 :: w :: ws) bp) (fun σ H Q => σ[j]? = some (some (.bl b1)) ∧ tH X.K cv W i a (.bl b) σ H Q) := by
    cases b1 with
    | true =>
      have h2 := he_ok (cv := cv) (W := W) (a := a) (pn := pn) hz hf hN hln hok hgl hm hq y b _ (e2 rfl) hr
      refine (pe_andT hg (pe_tail h2)).to fun σ H Q ⟨hj, q⟩ => ⟨hj, true, rfl, ?_⟩
      rw [if_pos rfl]
      exact q
    | false =>
      have z := e3 rfl
      subst z
      have no : PE (X.suite a ((a, oe) :: pn)) (.BoolOp .And (w :: ws) bp) (fun _ _ _ => False) := ⟨fun _ _ _ _ _ _ z => z.elim⟩
      refine (pe_andT hg no).to fun σ H Q ⟨hj, e, st, φ, rs, q⟩ => ⟨hj, false, rfl, ?_⟩
      rw [if_neg Bool.false_ne_true]
      exact q.here rs _ (.bl _)
  refine (pss_cons (ps_set (X := X.suite a ((a, oe) :: pn)) nd hM hloc h1 hsw (.inr hlg)) (pss_one (X := X.suite a ((a, oe) :: pn)) (ps_ret (X := X.suite a ((a, oe) :: pn)) (pe_lst (pa_cons (X := X.suite a ((a, oe) :: pn)) pe_str (pa_cons (X := X.suite a ((a, oe) :: pn)) hand pa_nil rfl)))))).to fun D σ H ⟨hlen, e, st, φ, rs, q⟩ => ?_
  refine ⟨e, st, φ, rs, fun φ1 H1 g1 rs1 w rw_ => ?_⟩
  cases rw_
  refine ⟨by rw [List.getElem?_set_self hlen], by rw [List.getElem?_set_ne (Ne.symm hij)]; exact e, st, φ1, rs1, fun φ2 H2 g2 rs2 w2 rw2 => ?_⟩
  cases rw2
  refine ⟨by show 2 ≤ PySem.sizeLine; rw [sizeLine_eq]; decide, ?_⟩
  exact new_scr (W := W) (σ := σ) rs2 (.cons (.str s) (.cons (.bl b) .nil)) ((Pst.grow q g1).grow g2)
end
/-! ### several except clauses -/
structure Cl where
  c : Value
  i : Option Nat
  t : Addr → Value → Option Addr → TS
def Cl.ends (p : Cl) (D : Ends) : Ends := match p.i with
  | none => D
  | some i => { nx := fun σ H => D.nx (σ.set i none) H, rt := D.rt, bk := fun σ H => D.bk (σ.set i none) H, ct := fun σ H => D.ct (σ.set i none) H }
def Cl.st (p : Cl) (a : Addr) (σ : L2.St) : L2.St := match p.i with
  | none => σ
  | some i => σ.set i (some (.ref a))
/-- what the clauses wish of an error, from the first on -/
def wish (K : PySem.W.Frag) (W : WX) (D : Ends) : List Cl → WX
  | [] => W
  | p :: r => fun cls d σ H => ∃ b, PySem.W.exmOne K cls p.c = some b ∧ (b = true → ∀ a, H a = none → p.t a cls d (p.ends D) (p.st a σ) H) ∧ (b = false → wish K W D r cls d σ H)
inductive Cls (X : L2.Cx) : List ExceptHandler → List Cl → Prop
  | nil : Cls X [] []
  | plain {x : Str} {c : Value} {ts : Addr → Value → Option Addr → TS} {b0 : Stmt} {bs : List Stmt} {np pp : Pos} {hds : List ExceptHandler} {l : List Cl} : Names X x c →
      (∀ (a : Addr) (oe : Obj) (cls : Value) (d : Option Addr) (pn : List (Addr × Obj)), Zc cls d oe → (∃ vs, oe.data = .fields vs) → PSs (X.suite a ((a, oe) :: pn)) (b0 :: bs) (ts a cls d)) → Cls X hds l →
      Cls X (.ExceptHandler (some (.Name x np)) none (b0 :: bs) pp :: hds) (⟨c, none, ts⟩ :: l)
  | named {x n : Str} {i : Nat} {c : Value} {ts : Addr → Value → Option Addr → TS} {b0 : Stmt} {bs : List Stmt} {np pp : Pos} {hds : List ExceptHandler} {l : List Cl} : X.N[i]? = some n → X.env.kindOf n = some .local → Names X x c →
      (∀ (a : Addr) (oe : Obj) (cls : Value) (d : Option Addr) (pn : List (Addr × Obj)), Zc cls d oe → (∃ vs, oe.data = .fields vs) → PSs (X.suite a ((a, oe) :: pn)) (b0 :: bs) (ts a cls d)) → Cls X hds l →
      Cls X (.ExceptHandler (some (.Name x np)) (some n) (b0 :: bs) pp :: hds) (⟨c, some i, ts⟩ :: l)
section
variable {X : L2.Cx} {bd : List Stmt} {h0 : ExceptHandler} {hr : List ExceptHandler} {l : List Cl} {pos : Pos} {tb : WX → TS} {Wo : WX}
/-- a clause's test -/
theorem cl_test {pins : List (Addr × Obj)} {σ : L2.St} {H : Hp} {s : Shared} {a : Addr} {oe : Obj} {x : Str} {c : Value} {np : Pos} (I : Inv (X.suite a ((a, oe) :: (X.pn ++ pins))) [] σ H s) (hn : Names X x c) {Q : Value → Shared → Prop} {E : Value → Shared → Prop} (q : Q c s) :
    wpAny (model X.prog X.w) (X.A.mark (some (.ref a))) (eval (.Name x np) X.env) Q E s := by
  obtain ⟨g, db, m | ⟨m, bv, nn⟩⟩ := hn
  · exact ld_glob (X := X.suite a ((a, oe) :: (X.pn ++ pins))) I g m q db
  · exact ld_blt (X := X.suite a ((a, oe) :: (X.pn ++ pins))) I g m bv q nn db
theorem ps_clauses (hs : X.stack = X.env :: X.outer) (hf : X.env.frame = some X.env.locals) (hN : X.N.Nodup) (tk : Takes X Wo)
    (hb : ∀ (W : WX) (pn : List (Addr × Obj)) (xe : Value → Shared → Prop), Takes (X.tr pn xe) W → PassesOwn (model X.prog X.w) X.A X.env xe → PSs (X.tr pn xe) bd (tb W))
    (hh : Cls X (h0 :: hr) l) : PS X (.Try bd (h0 :: hr) [] [] pos) (fun D σ H => tb (wish X.K Wo D l) D σ H) := by
  refine ⟨fun pins s σ H D I h => ?_⟩
  have ok := I.ok
  have fr : X.A.frames = some (X.env :: X.outer) := by rw [ok.frames, hs]
  refine wpAny_Try_except (wpAny_mono ((hb _ (X.pn ++ pins) (fun e s₁ =>
    wpAny (model X.prog X.w) X.A (noteFrame e X.env) (fun _ s₂ =>
      wpAny (model X.prog X.w) X.A (setFlight e none) (fun _ s₃ =>
        wpAny (model X.prog X.w) X.A (handleBy e X.env (h0 :: hr)) (SP X pins D) X.xe s₃) X.xe s₂) X.xe s₁)
    (fun u s1 w => ?_) PassesOwn.looking).run [] s σ H D (I.toTry _) h) (fun f s1 r => ?_) fun _ _ z => z)
  · obtain ⟨a, B, s0, pins1, σ1, H1, cls, d, rfl, K0, nb, up, sky, na, os, ag, w⟩ := w
    have K1 : Inv X pins σ1 H1 s0 := K0.ofTry ok
    have sky1 : Sky B (X.env :: X.outer) a (Zc cls d) X.env.locals s1.heap := by rw [← hs]; exact sky
    show wpAny (model X.prog X.w) X.A (noteFrame (.ref a) X.env) _ _ _
    refine Sky.land Zc.steady fr hf sky1 fun h3 fl up3 => ?_
    have K3 : Inv X pins σ1 H1 { s1 with heap := h3 } := K1.landed nb fl.1 (up.trans up3) os ag
    obtain ⟨oe, vs, he, hz, hd⟩ := fl.there
    have far : a ∉ frs (X.env :: X.outer) := fun hm => by
      obtain ⟨_, o', e', z⟩ := fl.2.2.1.mem hm
      rw [he] at e'; cases e'
      exact z _ hd
    have aL : a ≠ X.env.locals := fun z => far (List.mem_filterMap.mpr ⟨X.env, List.mem_cons_self, by rw [hf, z]⟩)
    have aF : a ∉ X.fs := fun hm => by
      obtain ⟨e, h1, h2⟩ := List.mem_filterMap.mp hm
      exact far (List.mem_filterMap.mpr ⟨e, List.mem_cons_of_mem _ h1, h2⟩)
    have S3 := K3.suite he hd na aL aF
    suffices go : ∀ {ho : List ExceptHandler} {lo : List Cl}, Cls X ho lo → wish X.K Wo D lo cls d σ1 H1 → wpAny (model X.prog X.w) X.A (handleBy (.ref a) X.env ho) (SP X pins D) X.xe { s1 with heap := h3 } from go hh w
    clear w
    intro ho lo k
    induction k with
    | nil =>
      intro w
      refine wpAny_handleBy_nil ?_
      obtain ⟨_, _, _, oe', vs', T, _, _, g1, _, g2, g3, _⟩ := id fl
      unfold PySem.passOn
      refine wpAny_bind (wpAny_field g1 g2 g3 ?_)
      rw [if_neg (show ¬(Value.ref T == Value.none) = true from by simp)]
      have up_ : wpAny (model X.prog X.w) X.A (setFlight (.ref a) X.env.frame) (fun _ s4 => wpAny (model X.prog X.w) X.A (throw (.ref a) : Sem Flow) (SP X pins D) X.xe s4) X.xe { s1 with heap := h3 } := by
        rw [hf]
        exact HandSPX.setFlight_upZ fl fun h4 f4 up4 => wpAny_throw (tk _ _ ⟨a, B, s0, pins, σ1, H1, cls, d, rfl, K1, nb, (up.trans up3).trans up4, .inr (.inr (by rw [hs]; exact f4)), na, os, ag, w⟩)
      first
        | exact wpAny_bind (wpAny_pure (wpAny_bind up_))
        | exact wpAny_bind up_
    | @plain x c ts b0 bs np pp hds l2 hn hsu _ ih =>
      rintro ⟨b, e1, yes, no⟩
      refine wpAny_handleBy_cons (codeAny_handlers_test (cl_test S3 hn ((PySem.W.exm_one (M := model X.prog X.w) K3.kIn (fun A Q E s k q => wpAny_typeOf_ref (k _ _ he) (by rw [hz.1]; exact q)) e1).here ?_))) (fun q => by cases q)
      cases b with
      | false => exact ih (no rfl)
      | true =>
        refine codeAny_handlers_suite (HandSPX.lands_againZ fl fun h4 fl4 up4 => ?_)
        have K4 : Inv X pins σ1 H1 { s1 with heap := h4 } := K1.landed nb fl4.1 ((up.trans up3).trans up4) os ag
        obtain ⟨o4, v4, he4, hz4, hd4⟩ := fl4.there
        refine wpAny_mono ((hsu a o4 cls d (X.pn ++ pins) hz4 ⟨_, hd4⟩).run [] _ _ H1 _ (K4.suite he4 hd4 na aL aF) (yes rfl a na)) (fun f s6 r => ?_) fun _ _ z => z.elim
        cases f with
        | ret u => exact let ⟨v, σ6, H6, S6, r6, q6⟩ := r; ⟨v, σ6, H6, S6.unsuite ok, r6, q6⟩
        | next => exact let ⟨σ6, H6, S6, q6⟩ := r; ⟨σ6, H6, S6.unsuite ok, q6⟩
        | brk => exact let ⟨σ6, H6, S6, q6⟩ := r; ⟨σ6, H6, S6.unsuite ok, q6⟩
        | cont => exact let ⟨σ6, H6, S6, q6⟩ := r; ⟨σ6, H6, S6.unsuite ok, q6⟩
    | @named x n i c ts b0 bs np pp hds l2 hi hl hn hsu _ ih =>
      rintro ⟨b, e1, yes, no⟩
      refine wpAny_handleBy_cons (codeAny_handlers_test (cl_test S3 hn ((PySem.W.exm_one (M := model X.prog X.w) K3.kIn (fun A Q E s k q => wpAny_typeOf_ref (k _ _ he) (by rw [hz.1]; exact q)) e1).here ?_))) (fun q => by cases q)
      cases b with
      | false => exact ih (no rfl)
      | true =>
        refine codeAny_handlers_suite_as (HandSPX.lands_againZ fl fun h4 fl4 up4 => ?_)
        have K4 : Inv X pins σ1 H1 { s1 with heap := h4 } := K1.landed nb fl4.1 ((up.trans up3).trans up4) os ag
        obtain ⟨o4, v4, he4, hz4, hd4⟩ := fl4.there
        refine store_ok (X := X.suite a ((a, o4) :: (X.pn ++ pins))) (v := .ref a) (K4.suite he4 hd4 na aL aF) hN hi (.inl hl) rfl (fun s5 S5 => ?_) (.inr hl)
        refine wpAny_mono ((hsu a o4 cls d (X.pn ++ pins) hz4 ⟨_, hd4⟩).run [] s5 _ H1 _ S5 (yes rfl a na)) (fun f s6 r => ?_) fun _ _ z => z.elim
        have fin : ∀ {σ6 : L2.St} {H6 : Hp} {Q : Shared → Prop}, Inv (X.suite a ((a, o4) :: (X.pn ++ pins))) [] σ6 H6 s6 → (∀ s7, Inv X pins (σ6.set i none) H6 s7 → Q s7) →
            wpAny (model X.prog X.w) X.A (do bindName X.env n .none; unbindBehindTheSuite X.env n pp) (fun _ s7 => Q s7) X.xe s6 := fun S6 q => gone_ok (S6.unsuite ok) hN hi hl q
        cases f with
        | ret u => exact let ⟨v, σ6, H6, S6, r6, q6⟩ := r; fin S6 fun s7 K7 => ⟨_, _, _, K7, r6, q6⟩
        | next => exact let ⟨σ6, H6, S6, q6⟩ := r; fin S6 fun s7 K7 => ⟨_, _, K7, q6⟩
        | brk => exact let ⟨σ6, H6, S6, q6⟩ := r; fin S6 fun s7 K7 => ⟨_, _, K7, q6⟩
        | cont => exact let ⟨σ6, H6, S6, q6⟩ := r; fin S6 fun s7 K7 => ⟨_, _, K7, q6⟩
  · cases f with
    | ret u => exact let ⟨v, σ2, H2, J, r2, q⟩ := r; ⟨v, σ2, H2, J.ofTry ok, r2, q⟩
    | next => exact let ⟨σ2, H2, J, q⟩ := r; wpAny_execs_nil ⟨σ2, H2, J.ofTry ok, q⟩
    | brk => exact let ⟨σ2, H2, J, q⟩ := r; ⟨σ2, H2, J.ofTry ok, q⟩
    | cont => exact let ⟨σ2, H2, J, q⟩ := r; ⟨σ2, H2, J.ofTry ok, q⟩
end
section
variable {X : L2.Cx} {cv : String → Value} {W : WX} {C : Lg.Cx} {sub : String → String → Option Bool}
theorem pss_ex {α : Type} {Pr : α → Prop} {t : α → TS} {ss : List Stmt} (h : ∀ p, Pr p → PSs X ss (t p)) : PSs X ss (fun D σ H => ∃ p, Pr p ∧ t p D σ H) := ⟨fun pins s σ H D I ⟨p, hp, q⟩ => (h p hp).run pins s σ H D I q⟩
/-- what a named clause returns -/
def tR (K : PySem.W.Frag) (cv : String → Value) (W : WX) (sub : String → String → Option Bool) (i : Nat) (x : Lg.HR) (a : Addr) (cls : Value) (d : Option Addr) : TS := fun D σ H => ∃ p : String × Lg.D, (cls = cv p.1 ∧ d = none ∧ Lg.hrv sub p.1 x = some p.2) ∧ tH K cv W i a p.2 σ H D.rt
/-- a name holds what is asked first, then `it and b` is returned with a word -/
def tR2 (K : PySem.W.Frag) (cv : String → Value) (W : WX) (sub : String → String → Option Bool) (i j : Nat) (s : String) (x y : Lg.HE) (a : Addr) (cls : Value) (d : Option Addr) : TS := fun D σ H => ∃ p : String × Bool, (cls = cv p.1 ∧ d = none ∧ Lg.hev2 sub p.1 x y = some p.2 ∧ i ≠ j) ∧ j < σ.length ∧ tH K cv W i a (.scr [.str s, .bl p.2]) σ H D.rt
def clsOf (K : PySem.W.Frag) (cv : String → Value) (W : WX) (C : Lg.Cx) (sub : String → String → Option Bool) : Lg.Hs → List Cl
  | .nil => []
  | .plain c h r => ⟨cv c, none, fun _ _ _ => tSs K cv WF C sub h⟩ :: clsOf K cv W C sub r
  | .named c i x r => ⟨cv c, some i, tR K cv W sub i x⟩ :: clsOf K cv W C sub r
  | .named2 c i j s x y r => ⟨cv c, some i, tR2 K cv W sub i j s x y⟩ :: clsOf K cv W C sub r
def hsC : Lg.Hs → List String
  | .nil => []
  | .plain c _ r => c :: hsC r
  | .named c _ _ r => c :: hsC r
  | .named2 c _ _ _ _ _ r => c :: hsC r
theorem hdl_wish {K : PySem.W.Frag} : ∀ (hs : Lg.Hs) (hsub : ∀ c ∈ hsC hs, ∀ c' r, sub c' c = some r → PySem.W.exmOne K (cv c') (cv c) = some r) {D : Ends} {σ σ' : L2.St} {φ : Ph} {H : Hp} {st : Lg.Store} {c' : String} {env : Lg.Env}, RepSt K φ H st → REnv K φ H σ' env →
    Pst K cv W σ φ H (Lg.noexc (Lg.hdl C sub hs c' env st)) (kF K cv W D) → wish K W D (clsOf K cv W C sub hs) (cv c') none σ' H
  | .nil, hsub, D, σ, σ', φ, H, st, c', env, rs, re, q => by
    simp only [Lg.hdl] at q
    exact q _ _ (Grow.refl _ _) rs σ' re
  | .plain c h r, hsub, D, σ, σ', φ, H, st, c', env, rs, re, q => by
    simp only [Lg.hdl] at q
    split at q
    · rename_i es
      refine ⟨true, hsub _ (List.mem_cons_self) _ _ es, fun _ a _ => ⟨env, st, φ, re, rs, ?_⟩, fun z => (by cases z)⟩
      rw [noexc_bind] at q
      refine Pst.noexc_to (W := W) (σ := σ) (q.bind.imp fun f st2 φ2 H2 g2 rs2 q2 => ?_)
      cases f with
      | xc c2 e2 => exact q2.elim
      | nx e => exact q2 _ _ (Grow.refl _ _) rs2
      | rt d => exact q2 _ _ (Grow.refl _ _) rs2
      | bk e => exact q2 _ _ (Grow.refl _ _) rs2
      | ct e => exact q2 _ _ (Grow.refl _ _) rs2
    · rename_i es
      exact ⟨false, hsub _ (List.mem_cons_self) _ _ es, fun z => (by cases z), fun _ => hdl_wish r (fun c hc => hsub c (List.mem_cons_of_mem _ hc)) rs re q⟩
    · exact q.elim
  | .named c i x r, hsub, D, σ, σ', φ, H, st, c', env, rs, re, q => by
    simp only [Lg.hdl] at q
    split at q
    · rename_i es
      split at q
      · rename_i d ed
        split at q
        · rename_i hi
          refine ⟨true, hsub _ (List.mem_cons_self) _ _ es, fun _ a _ => ⟨(c', d), ⟨rfl, rfl, ed⟩, ?_, st, φ, rs, ?_⟩, fun z => (by cases z)⟩
          · show (σ'.set i (some (V.ref a)))[i]? = _
            rw [List.getElem?_set_self (by rw [← re.len]; exact hi)]
          · exact fun φ1 H1 g rs1 => q φ1 H1 g rs1
        · exact q.elim
      · exact q.elim
    · rename_i es
      exact ⟨false, hsub _ (List.mem_cons_self) _ _ es, fun z => (by cases z), fun _ => hdl_wish r (fun c hc => hsub c (List.mem_cons_of_mem _ hc)) rs re q⟩
    · exact q.elim
  | .named2 c i j s x y r, hsub, D, σ, σ', φ, H, st, c', env, rs, re, q => by
    simp only [Lg.hdl] at q
    split at q
    · rename_i es
      split at q
      · rename_i d ed
        split at q
        · rename_i hi
          refine ⟨true, hsub _ (List.mem_cons_self) _ _ es, fun _ a _ => ⟨(c', d), ⟨rfl, rfl, ed, hi.2.2⟩, by show j < (σ'.set i (some (V.ref a))).length; rw [List.length_set, ← re.len]; exact hi.2.1, ?_, st, φ, rs, ?_⟩, fun z => (by cases z)⟩
          · show (σ'.set i (some (V.ref a)))[i]? = _
            rw [List.getElem?_set_self (by rw [← re.len]; exact hi.1)]
          · exact fun φ1 H1 g rs1 => q φ1 H1 g rs1
        · exact q.elim
      · exact q.elim
    · rename_i es
      exact ⟨false, hsub _ (List.mem_cons_self) _ _ es, fun z => (by cases z), fun _ => hdl_wish r (fun c hc => hsub c (List.mem_cons_of_mem _ hc)) rs re q⟩
    · exact q.elim
theorem ss_trym {b : Lg.Ss} {hs : Lg.Hs} {body : List Stmt} {h0 : ExceptHandler} {hds : List ExceptHandler} {pos : Pos} (e1 : X.stack = X.env :: X.outer) (hf : X.env.frame = some X.env.locals) (hN : X.N.Nodup) (tk : Takes X W)
    (hsub : ∀ c ∈ hsC hs, ∀ c' r, sub c' c = some r → PySem.W.exmOne X.K (cv c') (cv c) = some r)
    (hb : ∀ (W : WX) (pn : List (Addr × Obj)) (xe : Value → Shared → Prop), Takes (X.tr pn xe) W → PassesOwn (model X.prog X.w) X.A X.env xe → PSs (X.tr pn xe) body (tSs X.K cv W C sub b))
    (hh : Cls X (h0 :: hds) (clsOf X.K cv W C sub hs)) : PS X (.Try body (h0 :: hds) [] [] pos) (tS X.K cv W C sub (.trym b hs)) :=
  (ps_clauses (tb := fun W => tSs X.K cv W C sub b) e1 hf hN tk hb hh).to fun D σ H ⟨env, st, φ, re, rs, q⟩ => by
    simp only [Lg.exec, noexc_bind] at q
    refine ⟨env, st, φ, re, rs, Pst.noexc_to (W := W) (σ := σ) (q.bind.imp fun f st1 φ1 H1 g1 rs1 q1 => ?_)⟩
    cases f with
    | nx e => exact q1 _ _ (Grow.refl _ _) rs1
    | rt d => exact q1 _ _ (Grow.refl _ _) rs1
    | bk e => exact q1 _ _ (Grow.refl _ _) rs1
    | ct e => exact q1 _ _ (Grow.refl _ _) rs1
    | xc c' e => exact fun σ' re' => hdl_wish hs hsub rs1 re' q1
end
end So
namespace So
open PySem PySem.Spec PyProof.Rows L2
theorem swapsNo {v : Expr} {l : Nat} {env : PySem.Env} (h : noComp v = true) (t : Option Expr) : swapsWith v t l env = pure false := by
  cases v <;> first | rfl | cases h
theorem blkFn {env : PySem.Env} (hk : env.scope.kind = .function) : env.blockKind = .function := by unfold PySem.Env.blockKind; rw [hk]; rfl
theorem kindOf_eq {env : PySem.Env} (x : Str) : env.kindOf x = env.scope.names.lookup x := rfl
theorem swapsList {el : Expr} {gs : List Comprehension} {scope : Scope} {pos py : Pos} {y : Str} {l : Nat} {env : PySem.Env} (hk : env.scope.kind = .function) (h : swb env.scope y py (.ListComp el gs scope pos) = false) : swapsWith (.ListComp el gs scope pos) (some (.Name y py)) l env = pure false := by
  unfold swapsWith
  simp only [blkFn hk, Expr.pos]
  unfold swb at h
  rw [← kindOf_eq] at h
  refine congrArg pure ?_
  by_cases e : env.kindOf y = some .local
  · simp only [e, decide_true, Bool.true_and] at h
    simp only [e, beq_self_eq_true, Bool.true_and]
    exact h
  · have e2 : (env.kindOf y == some NameKind.local) = false := by simpa using e
    simp only [e2, Bool.and_false, Bool.false_and]
theorem starB (a : Expr) : (match a with | .Starred _ _ => true | _ => false) = !nstar a := by cases a <;> rfl
theorem par_ok {x y : Str} {px py pt pt2 : Pos} {kt k2 : Nat} {a b : Expr} {env : PySem.Env} (hk : env.scope.kind = .function) (h : parB env.scope x y px py a b = true) : swappedStores [.Tuple [.Name x px, .Name y py] kt pt] (.Tuple [a, b] k2 pt2) env = pure (some [x, y]) := by
  unfold parB at h
  simp only [Bool.and_eq_true, decide_eq_true_eq, Bool.not_eq_true'] at h
  obtain ⟨⟨⟨⟨⟨⟨⟨hx, hy⟩, hl⟩, hxy⟩, ha⟩, hb⟩, h1⟩, h2⟩ := h
  rw [← kindOf_eq] at hx hy
  have hl' : px.line = py.line := by simpa using hl
  have hxy' : ¬ x = y := by simpa using hxy
  unfold swappedStores
  simp only [blkFn hk, List.length_cons, List.length_nil, List.any_cons, List.any_nil, starB, ha, hb, List.filterMap_cons, List.filterMap_nil, hx, hy, h1, h2, List.head?_cons, Option.map_some, Option.getD_some, Expr.pos, beq_self_eq_true, Bool.true_and, ← hl', if_true]
  have hxy2 : ¬ y = x := fun e => hxy' e.symm
  simp [List.eraseDups_cons, hxy', hxy2]
  intro hh
  exfalso
  clear h1 h2
  rcases hh with hh | hh
  · cases a <;> first | (cases hh; done) | (cases ha; done)
  · cases b <;> first | (cases hh; done) | (cases hb; done)
theorem filter_short {α β : Type} (f : α → Option β) (p : α → Bool) (hf : ∀ a, p a = false → f a = none) : ∀ l : List α, (!l.all p) = true → ((l.filterMap f).length != l.length) = true
  | [], h => by simp at h
  | a :: r, h => by
    have le : (r.filterMap f).length ≤ r.length := List.length_filterMap_le f r
    by_cases ha : p a = true
    · have ih := filter_short f p hf r (by simpa [ha] using h)
      simp only [bne_iff_ne, ne_eq] at ih ⊢
      rw [List.filterMap_cons]
      split
      · simp only [List.length_cons]; omega
      · simp only [List.length_cons]; omega
    · rw [List.filterMap_cons, hf a (by simpa using ha)]
      simp only [bne_iff_ne, ne_eq, List.length_cons]
      omega
theorem noswap_ok {ts : List Expr} {v : Expr} {kt : Nat} {pt : Pos} {env : PySem.Env} (h : noSwap ts v = true) : swappedStores [.Tuple ts kt pt] v env = pure none := by
  unfold noSwap at h
  rw [Bool.or_eq_true] at h
  rcases h with h | h
  · cases v <;> first | rfl | cases h
  · cases v <;> try rfl
    unfold swappedStores
    simp only
    split
    · rfl
    · split
      · rfl
      · rw [if_pos]
        rw [Bool.or_eq_true]
        left
        exact filter_short _ isNm (fun a ha => by cases a <;> first | rfl | cases ha) ts h
structure OkS (X : L2.Cx) (N : List Str) (S : SC) (C : Lg.Cx) (cv : String → Value) (W : WX) (sub : String → String → Option Bool) : Prop extends Ok X N S C cv W where
  po : S.calm = true → PassesOwn (model X.prog X.w) X.A X.env X.xe
  stk : S.calm = true → X.stack = X.env :: X.outer
  frm : S.calm = true → X.env.frame = some X.env.locals
  hsub : ∀ c ∈ S.xs, ∀ c' r, sub c' c = some r → PySem.W.exmOne X.K (cv c') (cv c) = some r
  hq : ∀ c d b, sub c ("?" ++ d) = some b → IsF X.K X.mg (cv c) d b
section
variable {X : L2.Cx} {N : List Str} {S : SC} {C : Lg.Cx} {cv : String → Value} {W : WX} {sub : String → String → Option Bool}
theorem OkS.tr (o : OkS X N S C cv W sub) {W' : WX} {pn : List (Addr × Obj)} {xe : Value → Shared → Prop} (tk : Takes (X.tr pn xe) W') (po : PassesOwn (model X.prog X.w) X.A X.env xe) : OkS (X.tr pn xe) N S C cv W' sub where
  hN := o.hN
  nd := o.nd
  kind := o.kind
  hsc := o.hsc
  fn := o.fn
  calm := o.calm
  hu := o.hu
  tk := tk
  xl := ⟨X.env.locals, fun z => ⟨⟨_, _, o.stk z, o.frm z⟩, o.frm z⟩, TakesL.of tk⟩
  blt := o.blt
  own := o.own
  fnv := o.fnv
  xc := o.xc
  gl := o.gl
  cn := o.cn
  kls := o.kls
  po := fun _ => po
  stk := o.stk
  frm := o.frm
  hsub := o.hsub
  hq := o.hq
theorem OkS.suite (o : OkS X N S C cv W sub) {a : Addr} {pn : List (Addr × Obj)} : OkS (X.suite a pn) N { S with calm := false } C cv WF sub where
  hN := o.hN
  nd := o.nd
  kind := o.kind
  hsc := o.hsc
  fn := o.fn
  calm := fun z => by cases z
  hu := o.hu
  tk := takes0
  xl := ⟨X.env.locals, fun z => (by cases z), takesL0⟩
  blt := o.blt
  own := fun z => by cases z
  fnv := fun z => by cases z
  xc := o.xc
  gl := o.gl
  cn := o.cn
  kls := fun z => by cases z
  po := fun z => by cases z
  stk := fun z => by cases z
  frm := fun z => by cases z
  hsub := o.hsub
  hq := o.hq
theorem m_setLc {m : Bool} {own : List Nat} {elt : Lg.E} {tg : Lg.Tg} {it : Lg.It} {c : Lg.Eo} {el t i : Expr} {ifs : List Expr} {scope : Scope} {pos p px : Pos} {j : Nat} {x : Str} (ok : Ok X N S C cv W) (hi' : X.N[j]? = some x)
    (hw : swb S.sc x px (.ListComp el [⟨t, i, ifs, 0⟩] scope p) = true) (hc : S.calm = true) (hs : noSet i = true) (hit : chkIt N S it i t = true) (hb : blkC N S.sc scope (ownOf N own) = true) (hsl : ∀ j ∈ slots tg, j ∈ own) (htg : chkTg N (S.blk scope) tg t = true) (hco : chkC N (S.blk scope) c ifs = true) (hel : chkE N (S.blk scope) elt el = true) :
    PS X (.Assign [.Name x px] (.ListComp el [⟨t, i, ifs, 0⟩] scope p) pos) (tAsg (tE X.K cv W C (.comp m own elt tg it c)) (gName j)) := by
  have hb := blkOk_by hb
  have hk := hb.kind
  rw [← ok.hsc, ← ok.hN] at hb
  unfold swb at hw
  simp only [Bool.and_eq_true, decide_eq_true_eq, Bool.not_eq_true'] at hw
  obtain ⟨⟨w1, w2⟩, w3⟩ := hw
  rw [← ok.hsc] at w1
  refine (ps_setLc (g := tG X.K cv WF C tg) (tt := tCo X.K cv WF C c) (te := tE X.K cv WF C elt) (ok.calm hc) ok.nd hi' w1 (sw_true ok.kind w1 w2 w3) (mIt N C cv it ok hit) hb (fun s H D cl fp => mTg N C cv tg (ok.blk hk s H D cl fp) htg) (fun s H D cl fp => mC N C cv c (ok.blk hk s H D cl fp) hco) (fun s H D cl fp => (mE N C cv elt (ok.blk hk s H D cl fp) hel).1) (fset hs)).to fun D σ H h => ?_
  have e : (ownOf N own).map (·.2) = own := by unfold ownOf; rw [List.map_map]; simp [Function.comp_def]
  rw [ok.hN, e]
  exact comp_read hsl h
theorem chkE_sc {e : Lg.E} {a : Expr} {b : List Comprehension} {c : Scope} {d : Pos} (h : chkE N S e (.SetComp a b c d) = true) : False := by
  cases e <;> (rw [chkE] at h <;> first | (cases h; done) | (intros; rename_i h1 h2; cases h2))
theorem chkE_dc {e : Lg.E} {a a' : Expr} {b : List Comprehension} {c : Scope} {d : Pos} (h : chkE N S e (.DictComp a a' b c d) = true) : False := by
  cases e <;> (rw [chkE] at h <;> first | (cases h; done) | (intros; rename_i h1 h2; cases h2))
theorem chkE_lc {e : Lg.E} {el : Expr} {gs : List Comprehension} {c : Scope} {d : Pos} (hpc : plainC e = true) (h : chkE N S e (.ListComp el gs c d) = true) : ∃ m own elt tg it co t i ifs a, e = .comp m own elt tg it co ∧ gs = [⟨t, i, ifs, a⟩] := by
  cases e <;> try (exfalso; first | (exact Bool.noConfusion hpc) | (rw [chkE] at h <;> first | (cases h; done) | (intros; rename_i h1 h2; cases h2; done)))
  rename_i m own elt tg it co
  cases gs with
  | nil => exfalso; rw [chkE] at h <;> first | (cases h; done) | (intros; rename_i h1 h2; cases h2; done)
  | cons g r =>
    cases r with
    | cons _ _ => exfalso; rw [chkE] at h <;> first | (cases h; done) | (intros; rename_i h1 h2; cases h2; done)
    | nil => cases g; exact ⟨_, _, _, _, _, _, _, _, _, _, rfl, rfl⟩
theorem m_set {i : Nat} {x : Str} {px pos : Pos} {e : Lg.E} {v : Expr} (ok : Ok X N S C cv W) (h1 : chkTg N S (.nm i) (.Name x px) = true) (hpc : plainC e = true) (h2 : chkE N S e v = true) : PS X (.Assign [.Name x px] v pos) (tAsg (tE X.K cv W C e) (gName i)) := by
  simp only [chkTg, Bool.and_eq_true, decide_eq_true_eq, Bool.or_eq_true] at h1
  obtain ⟨⟨hi, hl⟩, hf⟩ := h1
  have hi' : X.N[i]? = some x := by rw [ok.hN]; exact hi
  have hf' : X.fn x = true ∨ X.env.scope.names.lookup x = some .local := hf.imp (ok.fn _) fun z => by rw [ok.hsc]; exact z
  by_cases hn : noComp v = true
  · exact ps_set ok.nd hi' (ok.l hl) (mE N C cv e ok h2).1 (swapsNo hn _) hf'
  · have : ∃ el gs scope p, v = .ListComp el gs scope p := by
      cases v with
      | ListComp a b c d => exact ⟨_, _, _, _, rfl⟩
      | SetComp a b c d => exact (chkE_sc h2).elim
      | DictComp a b c d e => exact (chkE_dc h2).elim
      | _ => exact absurd rfl hn
    obtain ⟨el, gs, scope, p, rfl⟩ := this
    by_cases hw : swb S.sc x px (.ListComp el gs scope p) = true
    · obtain ⟨m, own, elt, tg, it, c, t, i, ifs, a, rfl, rfl⟩ := chkE_lc hpc h2
      unfold chkE at h2
      simp only [Bool.and_eq_true, decide_eq_true_eq, List.all_eq_true, List.contains_iff_mem] at h2
      obtain ⟨⟨⟨⟨⟨⟨⟨⟨⟨hc, rfl⟩, hs⟩, hit⟩, hb⟩, hnm⟩, hsl⟩, htg⟩, hco⟩, hel⟩ := h2
      exact m_setLc ok hi' hw hc hs hit hb hsl htg hco hel
    · refine ps_set ok.nd hi' (ok.l hl) (mE N C cv e ok h2).1 (swapsList ok.kind ?_) hf'
      rw [ok.hsc]
      simpa using hw
end
theorem hs_in {N : List Str} : ∀ (hs : Lg.Hs) {S : SC} {l : List ExceptHandler}, chkHs N S hs l = true → ∀ c ∈ hsC hs, c ∈ S.xs
  | .nil, S, l, h => fun c hc => by cases hc
  | .plain c h0 r, S, l, h => by
    unfold chkHs at h; split at h <;> try contradiction
    cases ‹Lg.Hs.plain c h0 r = _›
    simp only [Bool.and_eq_true, decide_eq_true_eq, List.contains_iff_mem] at h
    obtain ⟨⟨⟨⟨⟨_, _⟩, _⟩, hx⟩, _⟩, hr⟩ := h
    intro d hd
    rcases List.mem_cons.mp hd with rfl | hd
    · exact hx
    · exact hs_in r hr d hd
  | .named c i x r, S, l, h => by
    unfold chkHs at h; split at h <;> try contradiction
    cases ‹Lg.Hs.named c i x r = _›
    simp only [Bool.and_eq_true, decide_eq_true_eq, List.contains_iff_mem] at h
    obtain ⟨⟨⟨⟨⟨⟨⟨⟨_, _⟩, _⟩, hx⟩, _⟩, _⟩, _⟩, _⟩, hr⟩ := h
    intro d hd
    rcases List.mem_cons.mp hd with rfl | hd
    · exact hx
    · exact hs_in r hr d hd
  | .named2 c i j s a b r, S, l, h => by
    unfold chkHs at h; split at h <;> try contradiction
    rename_i eq
    cases eq
    simp only [Bool.and_eq_true, decide_eq_true_eq, List.contains_iff_mem] at h
    have hx := h.1.1.1.1.1.1.1.1.1.1.1.1.2
    have hr := h.2
    intro d hd
    rcases List.mem_cons.mp hd with rfl | hd
    · exact hx
    · exact hs_in r hr d hd
mutual
theorem mS (N : List Str) (C : Lg.Cx) (cv : String → Value) (sub : String → String → Option Bool) : ∀ (s : Lg.S) {S : SC} {X : L2.Cx} {W : WX} {l : Stmt}, OkS X N S C cv W sub → chkS N S s l = true → PS X l (tS X.K cv W C sub s)
  | .assign (.nm i) e, S, X, W, l, ok, h => by
    unfold chkS at h; split at h <;> try contradiction
    all_goals cases ‹Lg.S.assign (.nm i) e = _›
    simp only [Bool.and_eq_true] at h
    exact ss_set (px := default) (y := Str.empty) (m_set ok.toOk h.1.1 h.1.2 h.2)
  | .assign (.ix a i) e, S, X, W, l, ok, h => by
    unfold chkS at h; split at h <;> try contradiction
    all_goals cases ‹Lg.S.assign (.ix a i) e = _›
    simp only [Bool.and_eq_true] at h
    refine ss_asg (mE N C cv e ok.toOk h.2).1 (mTg N C cv (.ix a i) ok.toOk h.1) ?_ ?_ rfl
    · rename_i v _
      cases v <;> rfl
    · rename_i v _
      cases v <;> rfl
  | .assign (.tp ts) e, S, X, W, l, ok, h => by
    unfold chkS at h; split at h <;> try contradiction
    all_goals cases ‹Lg.S.assign (.tp ts) e = _›
    simp only [Bool.and_eq_true] at h
    refine ss_asg (mE N C cv e ok.toOk h.2).1 (mTg N C cv (.tp ts) ok.toOk h.1.2) ?_ (noswap_ok h.1.1) rfl
    rename_i v _
    cases v <;> rfl
  | .par2 i j a b, S, X, W, l, ok, h => by
    unfold chkS at h; split at h <;> try contradiction
    cases ‹Lg.S.par2 i j a b = _›
    simp only [Bool.and_eq_true, decide_eq_true_eq, Bool.not_eq_true'] at h
    obtain ⟨⟨⟨⟨⟨⟨hc, hi⟩, hj⟩, hij⟩, hp⟩, ha⟩, hb⟩ := h
    have hp' := hp
    unfold parB at hp
    simp only [Bool.and_eq_true, decide_eq_true_eq, Bool.not_eq_true'] at hp
    obtain ⟨⟨⟨⟨⟨⟨⟨hx, hy⟩, hl⟩, hxy⟩, hsa⟩, hsb⟩, h1⟩, h2⟩ := hp
    rw [← ok.hsc] at hx hy hp'
    exact ss_par (ok.calm hc) ok.nd (by rw [ok.hN]; exact hi) (by rw [ok.hN]; exact hj) (by simpa using hij) hx hy (sa_cons hsa (mE N C cv a ok.toOk ha).1 (sa_cons hsb (mE N C cv b ok.toOk hb).1 sa_nil)) (par_ok ok.kind hp')
  | .aug i op e, S, X, W, l, ok, h => by
    unfold chkS at h; split at h <;> try contradiction
    cases ‹Lg.S.aug i op e = _›
    simp only [Bool.and_eq_true, decide_eq_true_eq, Bool.or_eq_true] at h
    obtain ⟨⟨⟨⟨rfl, hi⟩, hl⟩, hf⟩, he⟩ := h
    exact ss_aug op ok.nd (by rw [ok.hN]; exact hi) (ok.l hl) (mE N C cv e ok.toOk he).1 (hf.imp (ok.fn _) fun z => by rw [ok.hsc]; exact z)
  | .setf o f e, S, X, W, l, ok, h => by
    unfold chkS at h; split at h <;> try contradiction
    cases ‹Lg.S.setf o f e = _›
    simp only [Bool.and_eq_true, decide_eq_true_eq] at h
    obtain ⟨⟨rfl, ho⟩, he⟩ := h
    refine ss_setf (mE N C cv o ok.toOk ho).1 (mE N C cv e ok.toOk he).1 ?_
    rename_i v _
    cases v <;> rfl
  | .augf o f op e, S, X, W, l, ok, h => by
    unfold chkS at h; split at h <;> try contradiction
    cases ‹Lg.S.augf o f op e = _›
    simp only [Bool.and_eq_true, decide_eq_true_eq] at h
    obtain ⟨⟨⟨rfl, rfl⟩, ho⟩, he⟩ := h
    exact ss_augf op (mE N C cv o ok.toOk ho).1 (mE N C cv e ok.toOk he).1
  | .augi o i op e, S, X, W, l, ok, h => by
    unfold chkS at h; split at h <;> try contradiction
    cases ‹Lg.S.augi o i op e = _›
    simp only [Bool.and_eq_true, decide_eq_true_eq] at h
    obtain ⟨⟨⟨⟨hs, rfl⟩, ho⟩, hi⟩, he⟩ := h
    exact ss_augi op hs (mE N C cv o ok.toOk ho).1 (mE N C cv i ok.toOk hi).1 (mE N C cv e ok.toOk he).1
  | .expr e, S, X, W, l, ok, h => by
    unfold chkS at h; split at h <;> try contradiction
    cases ‹Lg.S.expr e = _›
    simp only [Bool.and_eq_true] at h
    exact ss_expr (mE N C cv e ok.toOk h.2).1 (swapsNo h.1 _)
  | .ret e, S, X, W, l, ok, h => by
    unfold chkS at h; split at h <;> try contradiction
    cases ‹Lg.S.ret e = _›
    exact ss_ret (mE N C cv e ok.toOk h).1
  | .ret0, S, X, W, l, ok, h => by
    unfold chkS at h; split at h <;> try contradiction
    exact ss_ret0
  | .ite c a b, S, X, W, l, ok, h => by
    unfold chkS at h; split at h <;> try contradiction
    cases ‹Lg.S.ite c a b = _›
    simp only [Bool.and_eq_true] at h
    exact ss_ite (mE N C cv c ok.toOk h.1.1).2 (mSs N C cv sub a ok h.1.2) (mSs N C cv sub b ok h.2)
  | .while c b, S, X, W, l, ok, h => by
    unfold chkS at h; split at h <;> try contradiction
    cases ‹Lg.S.while c b = _›
    simp only [Bool.and_eq_true] at h
    exact ss_while (ok.po h.1.1) (mE N C cv c ok.toOk h.1.2).2 (mSs N C cv sub b ok h.2)
  | .for t it b, S, X, W, l, ok, h => by
    unfold chkS at h; split at h <;> try contradiction
    cases ‹Lg.S.for t it b = _›
    simp only [Bool.and_eq_true] at h
    obtain ⟨⟨⟨⟨hc, hs⟩, hi⟩, hg⟩, hb⟩ := h
    exact ss_for (ok.po hc) (ok.calm hc) hs (mIt N C cv it ok.toOk hi) (mTg N C cv t ok.toOk hg) (mSs N C cv sub b ok hb)
  | .stop, S, X, W, l, ok, h => ss_stop
  | .pass, S, X, W, l, ok, h => by
    unfold chkS at h; split at h <;> try contradiction
    exact ss_pass
  | .brk, S, X, W, l, ok, h => by
    unfold chkS at h; split at h <;> try contradiction
    exact ss_brk
  | .cont, S, X, W, l, ok, h => by
    unfold chkS at h; split at h <;> try contradiction
    exact ss_cont
  | .raise c, S, X, W, l, ok, h => by
    unfold chkS at h; split at h <;> try contradiction
    cases ‹Lg.S.raise c = _›
    simp only [Bool.and_eq_true, decide_eq_true_eq, List.contains_iff_mem] at h
    obtain ⟨⟨⟨⟨⟨hc, rfl⟩, hg⟩, hn⟩, hx⟩, h⟩ := h
    split at h <;> try contradiction
    obtain ⟨Ca, m, ecv, k, r, B, newId, initId, bmB, F, q⟩ := ok.xc c hx
    refine ss_raise (as := []) (ok.calm hc) ok.tk ?_
    rw [ecv]
    exact pmk_own F q m k r (ok.g hg) (okName1 hn)
  | .tryx b c h0, S, X, W, l, ok, h => by
    unfold chkS at h; split at h <;> try contradiction
    cases ‹Lg.S.tryx b c h0 = _›
    simp only [Bool.and_eq_true, decide_eq_true_eq, List.contains_iff_mem] at h
    obtain ⟨⟨⟨⟨⟨⟨hc, rfl⟩, hg⟩, hn⟩, hx⟩, hb⟩, hh⟩ := h
    obtain ⟨Ca, m, ecv, k, r, B, newId, initId, bmB, F, q⟩ := ok.xc c hx
    exact ss_try (ok.stk hc) (ok.frm hc) ⟨ok.g hg, okName1 hn, .inl m⟩ ecv ok.tk (ok.hsub c hx) (fun W' pn xe tk po => mSs N C cv sub b (ok.tr tk po) hb) (fun a pn => mSs N C cv sub h0 ok.suite hh)
  | .trym b hs, S, X, W, l, ok, h => by
    unfold chkS at h; split at h <;> try contradiction
    cases ‹Lg.S.trym b hs = _›
    simp only [Bool.and_eq_true] at h
    obtain ⟨⟨hc, hb⟩, hh⟩ := h
    exact ss_trym (ok.stk hc) (ok.frm hc) ok.nd ok.tk (fun c hcm => ok.hsub c (hs_in hs hh c hcm)) (fun W' pn xe tk po => mSs N C cv sub b (ok.tr tk po) hb) (mHs N C cv sub hs ok hh)
theorem mHs (N : List Str) (C : Lg.Cx) (cv : String → Value) (sub : String → String → Option Bool) : ∀ (hs : Lg.Hs) {S : SC} {X : L2.Cx} {W : WX} {l : List ExceptHandler}, OkS X N S C cv W sub → chkHs N S hs l = true → Cls X l (clsOf X.K cv W C sub hs)
  | .nil, S, X, W, l, ok, h => by
    unfold chkHs at h; split at h <;> try contradiction
    exact .nil
  | .plain c h0 r, S, X, W, l, ok, h => by
    unfold chkHs at h; split at h <;> try contradiction
    cases ‹Lg.Hs.plain c h0 r = _›
    simp only [Bool.and_eq_true, decide_eq_true_eq, List.contains_iff_mem] at h
    obtain ⟨⟨⟨⟨⟨rfl, hg⟩, hn⟩, hx⟩, hh⟩, hr⟩ := h
    obtain ⟨Ca, m, ecv, k, _⟩ := ok.xc c hx
    rw [clsOf]
    refine .plain ⟨ok.g hg, okName1 hn, .inl (by rw [ecv]; exact m)⟩ (fun a oe cls d pn _ _ => mSs N C cv sub h0 ok.suite hh) (mHs N C cv sub r ok hr)
  | .named c i x r, S, X, W, l, ok, h => by
    unfold chkHs at h; split at h <;> try contradiction
    rename_i c1 i1 x1 r1 y py n v pv pp es eq
    cases eq
    simp only [Bool.and_eq_true, decide_eq_true_eq, List.contains_iff_mem] at h
    obtain ⟨⟨⟨⟨⟨⟨⟨⟨rfl, hg⟩, hn⟩, hx⟩, hi⟩, hl⟩, hn2⟩, hv⟩, hr⟩ := h
    obtain ⟨Ca, m, ecv, k, _⟩ := ok.xc c hx
    have hl' : X.env.scope.names.lookup n = some .local := by rw [ok.hsc]; exact hl
    rw [clsOf]
    refine .named (n := n) (by rw [ok.hN]; exact hi) (by rw [kindOf_eq]; exact hl') ⟨ok.g hg, okName1 hn, .inl (by rw [ecv]; exact m)⟩ (fun a oe cls d pn hz hf => ?_) (mHs N C cv sub r ok hr)
    refine pss_ex fun p ⟨e1, e2, e3⟩ => ?_
    subst e1 e2
    exact pss_one (ps_ret (hr_ok hz hf (by rw [ok.hN]; exact hi) hl' hn2 (fun x hx => ok.g hx) (ok.blt "isinstance" (by simp [blts])) (fun d b => ok.hq p.1 d b) x p.2 v e3 hv))
  | .named2 c i j s a b r, S, X, W, l, ok, h => by
    unfold chkHs at h; split at h <;> try contradiction
    rename_i eq
    cases eq
    simp only [Bool.and_eq_true, decide_eq_true_eq, List.contains_iff_mem] at h
    obtain ⟨⟨⟨⟨⟨⟨⟨⟨⟨⟨⟨⟨⟨⟨⟨c1, c2⟩, c3⟩, c4⟩, c5⟩, c6⟩, c7⟩, c8⟩, c9⟩, c10⟩, c11⟩, c12⟩, c13⟩, c14⟩, c15⟩, c16⟩ := h
    subst c1 c11 c13
    obtain ⟨Ca, m, ecv, k, _⟩ := ok.xc c c4
    rw [← ok.hsc] at c6 c9
    have hl' := c6
    have hg' := c9
    rw [clsOf]
    refine .named (by rw [ok.hN]; exact c5) (by rw [kindOf_eq]; exact hl') ⟨ok.g c2, okName1 c3, .inl (by rw [ecv]; exact m)⟩ (fun a oe cls d pn hz hf => ?_) (mHs N C cv sub r ok c16)
    refine pss_ex fun p ⟨e1, e2, e3, e4⟩ => ?_
    subst e1 e2
    exact hr2_ok hz hf ok.nd (by rw [ok.hN]; exact c5) hl' c7 (by rw [ok.hN]; exact c8) hg' c10 (.inl hg') e4 (.inl hg') (fun x hx => ok.g hx) (ok.blt "isinstance" (by simp [blts])) (fun d b => ok.hq p.1 d b) e3 c14 c15 (swapsNo c12 _)
theorem mSs (N : List Str) (C : Lg.Cx) (cv : String → Value) (sub : String → String → Option Bool) : ∀ (s : Lg.Ss) {S : SC} {X : L2.Cx} {W : WX} {l : List Stmt}, OkS X N S C cv W sub → chkSs N S s l = true → PSs X l (tSs X.K cv W C sub s)
  | .nil, S, X, W, l, ok, h => by
    unfold chkSs at h; split at h <;> try contradiction
    exact ss_nil
  | .cons s ss, S, X, W, l, ok, h => by
    unfold chkSs at h; split at h <;> try contradiction
    cases ‹Lg.Ss.cons s ss = _›
    simp only [Bool.and_eq_true] at h
    exact ss_cons (mS N C cv sub s ok h.1) (mSs N C cv sub ss ok h.2)
end
end So
namespace So
open PySem PySem.Spec PyProof.Rows L2
/-! ### behind a call -/
section
variable {K : PySem.W.Frag} {φ φ' φ1 : Ph} {H H1 : Hp} {st st1 : Lg.Store} {n : Nat}
mutual
theorem Rep.cutc (hp : ∀ (l : Nat) (a : Addr), l < n → φ.cs[l]? = some a → φ'.cs[l]? = some a) (ho : ∀ a, φ.out a → φ'.out a) : ∀ {v : V} {d : Lg.D}, Rep K φ H v d → Lg.below n d = true → Rep K φ' H v d
  | _, _, .non, _ => .non
  | _, _, .bl b, _ => .bl b
  | _, _, .int i, _ => .int i
  | _, _, .str s, _ => .str s
  | _, _, .tup h r, hb => .tup (by
      rcases h with ⟨h, m⟩ | ⟨o, h, m⟩ | h
      · exact .inl ⟨h, ho _ m⟩
      · exact .inr (.inl ⟨o, h, ho _ m⟩)
      · exact .inr (.inr h)) (Reps.cutc hp ho r hb)
  | _, _, .scr h m r, hb => .scr h (ho _ m) (Reps.cutc hp ho r hb)
  | _, _, .fro h r, hb => .fro (by
      rcases h with ⟨h, m⟩ | ⟨o, h, m⟩ | h
      · exact .inl ⟨h, ho _ m⟩
      · exact .inr (.inl ⟨o, h, ho _ m⟩)
      · exact .inr (.inr h)) (Reps.cutc hp ho r hb)
  | _, _, .ref h, hb => .ref (hp _ _ (by simpa [Lg.below] using hb) h)
  | _, _, .fn x, _ => .fn x
  | _, _, .obj h, hb => .obj (hp _ _ (by simpa [Lg.below] using hb) h)
theorem Reps.cutc (hp : ∀ (l : Nat) (a : Addr), l < n → φ.cs[l]? = some a → φ'.cs[l]? = some a) (ho : ∀ a, φ.out a → φ'.out a) : ∀ {vs : List V} {ds : List Lg.D}, Reps K φ H vs ds → Lg.belows n ds = true → Reps K φ' H vs ds
  | _, _, .nil, _ => .nil
  | _, _, .cons a r, hb => by
    simp only [Lg.belows, Bool.and_eq_true] at hb
    exact .cons (Rep.cutc hp ho a hb.1) (Reps.cutc hp ho r hb.2)
end
mutual
theorem Rep.belows : ∀ {v : V} {d : Lg.D}, Rep K φ H v d → Lg.below φ.cs.length d = true
  | _, _, .non => rfl
  | _, _, .bl b => rfl
  | _, _, .int i => rfl
  | _, _, .str s => rfl
  | _, _, .tup h r => Reps.belows r
  | _, _, .scr h m r => Reps.belows r
  | _, _, .fro h r => Reps.belows r
  | _, _, .ref h => by simpa [Lg.below] using (List.getElem?_eq_some_iff.mp h).1
  | _, _, .fn x => rfl
  | _, _, .obj h => by simpa [Lg.below] using (List.getElem?_eq_some_iff.mp h).1
theorem Reps.belows : ∀ {vs : List V} {ds : List Lg.D}, Reps K φ H vs ds → Lg.belows φ.cs.length ds = true
  | _, _, .nil => rfl
  | _, _, .cons a r => by simp [Lg.belows, Rep.belows a, Reps.belows r]
end
mutual
theorem noRef_below (n : Nat) : ∀ {d : Lg.D}, Lg.noRef d = true → Lg.below n d = true
  | .non, _ => rfl
  | .bl _, _ => rfl
  | .int _, _ => rfl
  | .str _, _ => rfl
  | .tup xs, h => noRefs_below n (ds := xs) h
  | .scr xs, h => noRefs_below n (ds := xs) h
  | .fro xs, h => noRefs_below n (ds := xs) h
  | .ref _, h => by simp [Lg.noRef] at h
  | .fn _, _ => rfl
  | .obj _, h => by simp [Lg.noRef] at h
theorem noRefs_below (n : Nat) : ∀ {ds : List Lg.D}, Lg.noRefs ds = true → Lg.belows n ds = true
  | [], _ => rfl
  | d :: ds, h => by
    simp only [Lg.noRefs, Bool.and_eq_true] at h
    simp [Lg.belows, noRef_below n h.1, noRefs_below n h.2]
end
theorem gc_ok (rs : RepSt K φ H st) (g : Grow φ H φ1 H1) (rs1 : RepSt K φ1 H1 st1) (d : Lg.D) : ∃ φ', Grow φ H φ' H1 ∧ RepSt K φ' H1 (Lg.gc st st1 d) ∧ ∀ v, Rep K φ1 H1 v d → Rep K φ' H1 v d := by
  unfold Lg.gc
  split
  · rename_i hc
    simp only [Bool.and_eq_true, Bool.or_eq_true, decide_eq_true_eq] at hc
    obtain ⟨hn, hc⟩ := hc
    have hp : ∀ (l : Nat) (a : Addr), l < st.length → φ1.cs[l]? = some a → φ.cs[l]? = some a := fun l a hl e => by
      obtain ⟨r, hr⟩ := g.pre
      rw [← hr, List.getElem?_append_left (by rw [rs.len]; exact hl)] at e
      exact e
    have ho : ∀ a, φ1.out a → φ.out a := fun a m => ⟨fun z => m.1 (g.pre.subset z), fun z => m.2 (by rw [g.hid]; exact z)⟩
    have hall : ∀ (l : Nat) (ds : List Lg.D), (st1.take st.length)[l]? = some (.lst ds) → Lg.belows st.length ds = true := fun l ds e => by
      rcases hc with hc | hc
      · rw [hc] at e
        obtain ⟨a, vs, _, _, h⟩ := rs.cell l ds e
        rw [← rs.len]
        exact h.belows
      · exact List.all_eq_true.mp hc _ (List.mem_of_getElem? e)
    have halli : ∀ (l : Nat) (C : String) (ns : List String) (ds : List Lg.D), (st1.take st.length)[l]? = some (.ins C ns ds) → Lg.belows st.length ds = true := fun l C ns ds e => by
      rcases hc with hc | hc
      · rw [hc] at e
        obtain ⟨_, _, a, dx, vs, _, _, h⟩ := rs.icell l C ns ds e
        rw [← rs.len]
        exact h.belows
      · exact List.all_eq_true.mp hc _ (List.mem_of_getElem? e)
    have hle : st.length ≤ st1.length := by
      rw [← rs.len, ← rs1.len]
      exact g.pre.length_le
    refine ⟨φ, ⟨List.prefix_refl _, rfl, fun _ h => .inl h, g.fr⟩, ⟨?_, rs.nd, fun b hb => ?_, fun l ds e => ?_, fun l C ns ds e => ?_⟩, fun v h => h.cutc hp ho (noRef_below _ hn)⟩
    · rw [List.length_take, rs.len]; omega
    · obtain ⟨h1, o, h2⟩ := rs.hid b hb
      exact ⟨h1, o, g.fr _ _ h2 h1⟩
    · have hl : l < st.length := by
        have := (List.getElem?_eq_some_iff.mp e).1
        rw [List.length_take] at this
        omega
      have e1 := e
      rw [List.getElem?_take_of_lt hl] at e1
      obtain ⟨a, vs, h1, h2, h3⟩ := rs1.cell l ds e1
      exact ⟨a, vs, hp l a hl h1, h2, h3.cutc hp ho (hall l ds e)⟩
    · have hl : l < st.length := by
        have := (List.getElem?_eq_some_iff.mp e).1
        rw [List.length_take] at this
        omega
      have e1 := e
      rw [List.getElem?_take_of_lt hl] at e1
      obtain ⟨k1, k2, a, dx, vs, h1, h2, h3⟩ := rs1.icell l C ns ds e1
      exact ⟨k1, k2, a, dx, vs, hp l a hl h1, h2, h3.cutc hp ho (halli l C ns ds e)⟩
  · exact ⟨φ1, g, rs1, fun v h => h⟩
theorem start_env : ∀ {vs : List V} {ds : List Lg.D} {N : List Str}, Reps K φ H vs ds → REnv K φ H (L2.start N vs) (Lg.start N.length ds) := fun {vs ds N} r => by
  have hl := r.length
  refine ⟨?_, fun i d e => ?_⟩
  · unfold L2.start Lg.start
    simp [hl]
  · unfold Lg.start at e
    unfold L2.start
    by_cases hi : i < ds.length
    · rw [List.getElem?_append_left (by simpa using hi), List.getElem?_map] at e
      rw [List.getElem?_append_left (by simpa [hl] using hi), List.getElem?_map]
      cases q : ds[i]? with
      | none => rw [q] at e; simp at e
      | some d' =>
        rw [q] at e
        simp at e
        subst e
        obtain ⟨v, h1, h2⟩ := r.get q
        exact ⟨v, by rw [h1]; rfl, h2⟩
    · rw [List.getElem?_append_right (by simpa using Nat.le_of_not_lt hi)] at e
      have := List.getElem?_eq_some_iff.mp e
      obtain ⟨h1, h2⟩ := this
      simp at h2
end
/-! ### defs -/
/-- a def of the module (cls = none), or a method: x: its qualified name, nm: its name -/
structure Df where
  x : String
  nm : String
  cls : Option String
  st : Stmt
  F : Lg.Fn
  N : List Str
  ps : List Str
/-- where it stands -/
def Df.at_ (d : Df) : Str × Option Str := match d.cls with
  | none => (Str.ofString d.x, none)
  | some c => (Str.ofString c, some (Str.ofString d.nm))
def Df.ad (K : PySem.W.Frag) (d : Df) : Addr := He.fAd K d.at_
theorem Df.ad_fn {K : PySem.W.Frag} {d : Df} (h : d.cls = none) : d.ad K = He.ga K (Str.ofString d.x) := by unfold Df.ad Df.at_; rw [h]; rfl
theorem Df.ad_m {K : PySem.W.Frag} {d : Df} {c : String} (h : d.cls = some c) : d.ad K = He.ma K (He.ga K (Str.ofString c)) (Str.ofString d.nm) := by unfold Df.ad Df.at_; rw [h]; rfl
def scOf (fs gs xs : List String) (cs : List (String × Lg.D)) (ks : List String) (d : Df) : SC := ⟨defScope d.st, fun _ => true, fs, gs, xs, cs, ks, true⟩
def chkD (fs gs xs : List String) (cs : List (String × Lg.D)) (ks : List String) (d : Df) : Bool := C8.scC d.N d.ps (defScope d.st) && decide (d.F.n = d.N.length) && decide (d.F.ps = d.ps.length) && chkSs d.N (scOf fs gs xs cs ks d) d.F.body (defBody d.st)
section
variable {P : Program} {w : World} {K : PySem.W.Frag} {mg : Str → Option Value} {base : Heap} {cv : String → Value} {Pg : Lg.Pg} {sub : String → String → Option Bool} {ds : List Df} {fs gs xs ks : List String} {cs : List (String × Lg.D)}
/-- what is known of a class -/
structure MdC (K : PySem.W.Frag) (mg : Str → Option Value) (ds : List Df) (c : String) (I : Lg.CI) : Prop where
  hmg : mg (Str.ofString c) = some (.ref (He.ga K (Str.ofString c)))
  kls : Kls K c I.ns
  init : ∃ d ∈ ds, d.x = I.init ∧ Mk K (He.ga K (Str.ofString c)) (d.ad K)
  ms : ∀ m g, I.ms.lookup m = some g → ∃ d ∈ ds, d.x = g ∧ Meth K (He.ga K (Str.ofString c)) (Str.ofString m) (d.ad K)
/-- what is known of the module -/
structure Md (K : PySem.W.Frag) (mg : Str → Option Value) (cv : String → Value) (Pg : Lg.Pg) (sub : String → String → Option Bool) (ds : List Df) (fs gs xs : List String) (cs : List (String × Lg.D)) (ks : List String) : Prop where
  hfs : ∀ f ∈ fs, ∃ d ∈ ds, d.x = f ∧ mg (Str.ofString f) = some (.ref (He.ga K (Str.ofString f))) ∧ d.ad K = He.ga K (Str.ofString f) ∧ PySem.W.keepIn K (.ref (He.ga K (Str.ofString f))) = true
  hfn : ∀ d ∈ ds, Pg.fn d.x = some d.F
  hchk : ∀ d ∈ ds, chkD fs gs xs cs ks d = true
  hmg : ∀ d ∈ ds, ∃ fd, Fun K (Str.ofString d.nm) (Str.ofString d.x) d.st (d.ad K) fd ∧ Binds K fd d.ps []
  hblt : ∀ x ∈ blts, mg (Str.ofString x) = none
  hxs : ∀ c ∈ xs, ∃ Ca, mg (Str.ofString c) = some (.ref Ca) ∧ cv c = .ref Ca ∧ PySem.W.keepIn K (.ref Ca) = true ∧ PySem.W.subIn K (.ref Ca) (.type "BaseException") = some true ∧ PySem.W.typeIn K (.ref Ca) = some (.type "type") ∧
    ∃ B newId initId bmB, ExcBaseFacts B newId initId bmB ∧ PySem.W.excIn K Ca bmB newId = true
  hsub : ∀ c ∈ xs, ∀ c' r, sub c' c = some r → PySem.W.exmOne K (cv c') (cv c) = some r
  hq : ∀ c d b, sub c ("?" ++ d) = some b → IsF K mg (cv c) d b
  hgl : ∀ x ∈ gs, ∀ d, Pg.gl x = some d → ∃ u v, mg (Str.ofString x) = some u ∧ RelV v u ∧ ∀ φ H, Rep K φ H v d
  hcn : ∀ p ∈ cs, ∃ u v, mg (Str.ofString p.1) = some u ∧ RelV v u ∧ ∀ φ H, Rep K φ H v p.2
  hks : ∀ c ∈ ks, ∀ I, Pg.ci c = some I → MdC K mg ds c I
theorem units65 {k : Nat} {A : Around} (r : Room k A) : A.units + 65 < cLine := by have := r.un; omega
theorem spC_bad {call : List Lg.D → Lg.Store → Lg.Out Lg.D} (h : ∀ ds st, call ds st = .bad) (vs : List V) (H : Hp) (Q : VK) (E : XK) (q : spC K cv call vs H Q E) : False := by
  obtain ⟨ds, st, φ, r, rs, q⟩ := q
  rw [h] at q
  exact q
theorem all_ok (M : Md K mg cv Pg sub ds fs gs xs cs ks) : ∀ (k : Nat), ∀ d ∈ ds, ∀ fa fd, Fun K (Str.ofString d.nm) (Str.ofString d.x) d.st fa fd → FnOk P w K mg base (L2.CX P w) (2 * k) fa fd d.ps (spC K cv (Lg.callF Pg sub k d.x)) := by
  intro k
  induction k with
  | zero =>
    intro d hd fa fd F
    have hb : ∀ ds st, Lg.callF Pg sub 0 d.x ds st = .bad := fun _ _ => rfl
    exact ⟨fun vs H Q E q => (spC_bad hb vs H Q E q).elim, fun A outer s H args us vs Q E _ _ _ _ q => (spC_bad hb vs H Q E q).elim⟩
  | succ k ih =>
    intro d hd fa fd F
    have hc := M.hchk d hd
    unfold chkD at hc
    simp only [Bool.and_eq_true, decide_eq_true_eq] at hc
    obtain ⟨⟨⟨h1, h2⟩, h3⟩, h4⟩ := hc
    have S := C8.fnScope_by h1
    have e0 : ∀ as st, Lg.callF Pg sub (k + 1) d.x as st = if as.length = d.F.ps then Lg.back st (Lg.execs ⟨Pg.gl, Lg.callF Pg sub k, Pg.ci⟩ sub d.F.body (Lg.start d.F.n as) st) else .bad := fun as st => by
      rw [Lg.callF, M.hfn d hd]
    refine F.okX (k := 2 * k + 1) S (fun vs H Q E q => ?_) fun cdv A outer s H vs Q E hr q => ?_
    · obtain ⟨as, st, φ, r, rs, q⟩ := q
      rw [e0] at q
      split at q
      · rename_i hl; rw [r.length, hl, h3]
      · exact q.elim
    · obtain ⟨as, st, φ, r, rs, q⟩ := q
      rw [e0] at q
      split at q
      · rename_i hl
        generalize hX : cxOf (L2.CX P w) P w K mg base d.N (Str.ofString d.x) (defScope d.st) fa cdv A outer s H E = X
        have eK : X.K = K := by rw [← hX]; rfl
        have tk : Takes X (fun cls d _ H => E cls d H) := by
          rw [← hX]; exact takes_of rfl rfl rfl rfl
        have ok : OkS X d.N (scOf fs gs xs cs ks d) ⟨Pg.gl, Lg.callF Pg sub k, Pg.ci⟩ cv (fun cls d _ H => E cls d H) sub := by
          refine ⟨⟨?_, ?_, ?_, ?_, ?_, ?_, ?_, tk, ⟨X.env.locals, ?_, TakesL.of tk⟩, ?_, ?_, ?_, ?_, ?_, ?_, ?_⟩, ?_, ?_, ?_, ?_, ?_⟩
          · rw [← hX]; rfl
          · rw [← hX]; exact S.nd
          · rw [← hX]; exact S.kind
          · rw [← hX]; rfl
          · rw [← hX]; exact fun _ _ => rfl
          · rw [← hX]; exact fun _ => rfl
          · rw [← hX]; exact units65 hr
          · rw [← hX]; exact fun _ => ⟨⟨_, _, rfl, rfl⟩, rfl⟩
          · rw [← hX]; exact M.hblt
          · rw [← hX]
            intro _ f hf
            obtain ⟨d', hd', rfl, m, ea, kp⟩ := M.hfs f hf
            obtain ⟨fd', F', B⟩ := M.hmg d' hd'
            rw [ea] at F'
            exact ⟨_, fd', d'.ps, 2 * k, m, kp, hr.mono (Nat.le_succ _), B, ih d' hd' _ fd' F'⟩
          · rw [← hX]
            intro _ f hf
            obtain ⟨d', hd', rfl, m, ea, kp⟩ := M.hfs f hf
            exact m
          · rw [← hX]
            intro c hc
            obtain ⟨Ca, m, e, kp, sb, ty, rest⟩ := M.hxs c hc
            exact ⟨Ca, m, e, kp, raises_own sb ty, rest⟩
          · rw [← hX]; exact M.hgl
          · rw [← hX]; exact M.hcn
          · rw [← hX]
            intro _ c hc I hI
            have Q := M.hks c hc I hI
            obtain ⟨d', hd', e', mk⟩ := Q.init
            obtain ⟨fd', F', B⟩ := M.hmg d' hd'
            refine ⟨Q.hmg, Q.kls, ⟨_, fd', d'.ps, 2 * k, mk, hr, B, by rw [← e']; exact ih d' hd' _ fd' F'⟩, fun m g hg => ?_⟩
            obtain ⟨d', hd', e', mt⟩ := Q.ms m g hg
            obtain ⟨fd', F', B⟩ := M.hmg d' hd'
            exact ⟨_, fd', d'.ps, 2 * k, mt, hr.mono (Nat.le_succ _), B, by rw [← e']; exact ih d' hd' _ fd' F'⟩
          · intro _
            exact passes_of (K := fun e s'' => L2.CX P w outer H s E e s'') (E₁ := fun e' s'' => L2.CX P w outer H s E e' s'') (by rw [← hX]; rfl)
          · rw [← hX]; exact fun _ => rfl
          · rw [← hX]; exact fun _ => rfl
          · rw [← hX]; exact M.hsub
          · rw [← hX]; exact M.hq
        refine ⟨_, mSs d.N ⟨Pg.gl, Lg.callF Pg sub k, Pg.ci⟩ cv sub d.F.body ok h4, ?_⟩
        rw [eK]
        refine ⟨Lg.start d.F.n as, st, φ, by rw [h2]; exact start_env r, rs, ?_⟩
        cases e : Lg.execs ⟨Pg.gl, Lg.callF Pg sub k, Pg.ci⟩ sub d.F.body (Lg.start d.F.n as) st with
        | bad => rw [e] at q; exact q
        | exc c st1 => rw [e] at q; exact q
        | ok f st1 =>
          rw [e] at q
          intro φ1 H1 g1 rs1
          cases f with
          | nx env =>
            intro σ' re'
            obtain ⟨φ', g', rs', hv⟩ := gc_ok rs g1 rs1 .non
            exact q φ' H1 g' rs' _ .non
          | rt dv =>
            intro v rv
            obtain ⟨φ', g', rs', hv⟩ := gc_ok rs g1 rs1 dv
            exact q φ' H1 g' rs' _ (hv v rv)
          | bk env => exact q.elim
          | ct env => exact q.elim
          | xc c env =>
            intro σ' re'
            obtain ⟨φ', g', rs', hv⟩ := gc_ok rs g1 rs1 .non
            exact q φ' H1 g' rs'
      · exact q.elim
end
end So
namespace So
open PySem PySem.Spec PyProof.Rows L2
/-! ### the module's facts by names -/
def fnL (ds : List Df) : List He.FnD := fnN (ds.map fun d => (d.x, d.nm, d.cls, d.st))
def fnames (ds : List Df) : List String := (ds.filter fun d => d.cls.isNone).map fun d => d.x
def faL (ds : List Df) (xs : List String) (ex : List (String × String × Bool)) (gi : List (String × Int)) (cl : List (String × Lg.CI)) : List He.Fa := faN (fnames ds) xs ex gi blts cl
def ciL (cl : List (String × Lg.CI)) (c : String) : Option Lg.CI := (cl.find? fun p => p.1 == c).map fun p => p.2
def hasD (ds : List Df) (c m x : String) : Bool := ds.any fun d => d.x == x && (d.nm == m && d.cls == some c)
def nodupB : List String → Bool
  | [] => true
  | x :: r => !r.contains x && nodupB r
theorem nodupB_ok : ∀ {l : List String}, nodupB l = true → l.Nodup
  | [], _ => List.nodup_nil
  | x :: r, h => by
    simp only [nodupB, Bool.and_eq_true, Bool.not_eq_true', List.contains_eq_mem, decide_eq_false_iff_not] at h
    exact List.nodup_cons.mpr ⟨h.1, nodupB_ok h.2⟩
/-- the classes and their defs -/
def clOk (ds : List Df) (cl : List (String × Lg.CI)) : Bool := cl.all (fun p => nodupB p.2.ns && (decide (p.2.ns.length < 1000) && (hasD ds p.1 "__init__" p.2.init && p.2.ms.all fun m => hasD ds p.1 m.1 m.2))) &&
  ds.all fun d => match d.cls with
    | none => d.nm == d.x
    | some c => cl.any fun p => p.1 == c && (d.nm == "__init__" || p.2.ms.any fun q => q.1 == d.nm)
def glL (gi : List (String × Int)) (x : String) : Option Lg.D := (gi.find? fun p => p.1 == x).map fun p => .int p.2
def subL (ex : List (String × String × Bool)) (a b : String) : Option Bool := (ex.find? fun p => p.1 == a && p.2.1 == b).map fun p => p.2.2
/-- .. and what isinstance says of a raised class -/
def subQ (ex iq : List (String × String × Bool)) (a b : String) : Option Bool := match subL ex a b with
  | some r => some r
  | none => (iq.find? fun p => p.1 == a && ("?" ++ p.2.1) == b).map fun p => p.2.2
def plainName (c : String) : Bool := c.toList.head? != some '?'
theorem q_list (d : String) : ("?" ++ d).toList = '?' :: d.toList := by rw [String.toList_append]; rfl
theorem plain_ne {c d : String} (h : plainName c = true) : c ≠ "?" ++ d := fun e => by
  unfold plainName at h
  rw [e, q_list] at h
  simp at h
theorem q_inj {c d : String} (h : "?" ++ c = "?" ++ d) : c = d := by
  have := congrArg String.toList h
  rw [q_list, q_list] at this
  exact String.toList_inj.mp (List.cons.inj this).2
theorem excC_of {K : PySem.W.Frag} {D : Addr} (h : excCb K D = true) : ExcC K D := by
  unfold excCb at h
  simp only [Bool.and_eq_true, decide_eq_true_eq] at h
  obtain ⟨h1, h2, h3, h4, h5, h6, h7, h8⟩ := h
  exact ⟨He.eqO_ok h1, He.eqO_ok h2, h3, h4, He.eqO_ok h5, He.eqO_ok h6, h7, h8⟩
/-- how a def's arguments bind -/
def BindH (d : Df) : Prop := ∀ (kV doc pm : Value) (an : Option Addr) (cdv ct : Value) (us : List Value), us.length = d.ps.length → bindArgs (PySem.W.fnOf (Str.ofString d.nm) (Str.ofString d.x) (defArgs d.st) (defBody d.st) (defScope d.st) .none kV doc pm an cdv ct) ⟨us, []⟩ = pure (d.ps.zip us)
inductive BindAll : List Df → Prop where
  | nil : BindAll []
  | cons {d : Df} {ds : List Df} : BindH d → BindAll ds → BindAll (d :: ds)
theorem BindAll.get {ds : List Df} (h : BindAll ds) : ∀ d ∈ ds, BindH d := by
  induction h with
  | nil => intro d hd; cases hd
  | cons a r ih =>
    intro d hd
    rcases List.mem_cons.mp hd with e | hd
    · subst e; exact a
    · exact ih d hd
def cvOf (K : PySem.W.Frag) (c : String) : Value := .ref (He.ga K (Str.ofString c))
/-! ### constants of the module -/
mutual
theorem conV_ok {K : PySem.W.Frag} : ∀ (d : Lg.D) (u : Value), conV K u d = true → ∃ v, RelV v u ∧ ∀ φ H, Rep K φ H v d
  | .int i, u, h => by
    unfold conV at h
    split at h <;> try contradiction
    cases ‹Lg.D.int i = _›
    simp only [decide_eq_true_eq] at h
    subst h
    exact ⟨.int _, ⟨_, rfl⟩, fun φ H => .int _⟩
  | .str s, u, h => by
    unfold conV at h
    split at h <;> try contradiction
    cases ‹Lg.D.str s = _›
    simp only [decide_eq_true_eq] at h
    subst h
    exact ⟨.str _, ⟨_, rfl⟩, fun φ H => .str _⟩
  | .tup ds, u, h => by
    unfold conV at h
    split at h <;> try contradiction
    cases ‹Lg.D.tup ds = _›
    split at h <;> try contradiction
    rename_i a _ _ cls dict its n osl ho
    simp only [Bool.and_eq_true, decide_eq_true_eq] at h
    obtain ⟨⟨h1, h2⟩, h3⟩ := h
    obtain ⟨vs, r1, r2⟩ := conVs_ok ds its.toList h3
    exact ⟨.ref _, rfl, fun φ H => .tup (.inr (.inr ⟨_, its, n, ho, h1, rfl, h2, r1⟩)) (r2 φ H)⟩
  | .non, u, h => by unfold conV at h; split at h <;> contradiction
  | .bl _, u, h => by unfold conV at h; split at h <;> contradiction
  | .scr _, u, h => by unfold conV at h; split at h <;> contradiction
  | .fro _, u, h => by unfold conV at h; split at h <;> contradiction
  | .ref _, u, h => by unfold conV at h; split at h <;> contradiction
  | .fn _, u, h => by unfold conV at h; split at h <;> contradiction
  | .obj _, u, h => by unfold conV at h; split at h <;> contradiction
theorem conVs_ok {K : PySem.W.Frag} : ∀ (ds : List Lg.D) (us : List Value), conVs K us ds = true → ∃ vs, Vals vs us ∧ ∀ φ H, Reps K φ H vs ds
  | [], [], _ => ⟨[], .nil, fun φ H => .nil⟩
  | d :: ds, u :: us, h => by
    simp only [conVs, Bool.and_eq_true] at h
    obtain ⟨v, r1, r2⟩ := conV_ok d u h.1
    obtain ⟨vs, s1, s2⟩ := conVs_ok ds us h.2
    exact ⟨v :: vs, .cons r1 s1, fun φ H => .cons (r2 φ H) (s2 φ H)⟩
  | [], _ :: _, h => by simp [conVs] at h
  | _ :: _, [], h => by simp [conVs] at h
end
theorem cAll_ok {K : PySem.W.Frag} {h : Heap} {mg : Str → Option Value} {cs : List (String × Lg.D)} (X : K.In h) (G : h.Ns mainGlobals mg) (hC : cAll cs K = true) : ∀ p ∈ cs, ∃ u v, mg (Str.ofString p.1) = some u ∧ RelV v u ∧ ∀ φ H, Rep K φ H v p.2 := fun p hp => by
  have k := List.all_eq_true.mp hC p hp
  unfold cOk at k
  split at k <;> try contradiction
  rename_i u hu
  obtain ⟨v, r1, r2⟩ := conV_ok p.2 u k
  exact ⟨u, v, PySem.W.mg_of X G hu, r1, r2⟩
section
variable {K : PySem.W.Frag} {h : Heap} {mg : Str → Option Value} {Pg : Lg.Pg} {ds : List Df} {fs gs xs : List String} {cs : List (String × Lg.D)} {ex : List (String × String × Bool)} {gi : List (String × Int)} {cl : List (String × Lg.CI)} {ks : List String}
theorem says_mem {fa : List He.Fa} {fn : List He.FnD} (c : He.SaysE fa fn K) {f : He.Fa} (hf : f ∈ fa) : f.ok K = true := by
  obtain ⟨i, hi, e⟩ := List.getElem_of_mem hf
  exact c.fact i (by rw [List.getElem?_eq_getElem hi, e])
theorem fa_fn {ds : List Df} {bs : List String} {d : Df} (hd : d ∈ ds) (hn : d.cls = none) : He.Fa.glo (Str.ofString d.x) ∈ faL ds xs ex gi cl ∧ He.Fa.keep (Str.ofString d.x) ∈ faL ds xs ex gi cl := by
  have hm : d.x ∈ fnames ds := List.mem_map.mpr ⟨d, List.mem_filter.mpr ⟨hd, by rw [hn]; rfl⟩, rfl⟩
  unfold faL faN
  exact ⟨List.mem_append_left _ (List.mem_map.mpr ⟨d.x, hm, rfl⟩), List.mem_append_right _ (List.mem_append_left _ (List.mem_map.mpr ⟨d.x, hm, rfl⟩))⟩
theorem fa_cl {p : String × Lg.CI} (hp : p ∈ cl) {f : He.Fa} (hf : f ∈ faK p) : f ∈ faL ds xs ex gi cl := by
  unfold faL faN
  exact List.mem_append_right _ (List.mem_append_right _ (List.mem_append_right _ (List.mem_append_right _ (List.mem_append_right _ (List.mem_append_right _ (List.mem_append_right _ (List.mem_flatMap.mpr ⟨p, hp, hf⟩)))))))
theorem fa_meth {p : String × Lg.CI} {q : String × String} (hq : q ∈ p.2.ms) : He.Fa.meth (Str.ofString p.1) (Str.ofString q.1) ∈ faK p := by
  unfold faK
  exact List.mem_cons_of_mem _ (List.mem_cons_of_mem _ (List.mem_cons_of_mem _ (List.mem_cons_of_mem _ (List.mem_append_right _ (List.mem_map.mpr ⟨q, hq, rfl⟩)))))
theorem fa_noat {p : String × Lg.CI} {f : String} (hf : f ∈ p.2.ns) : He.Fa.noat (Str.ofString p.1) (Str.ofString f) ∈ faK p := by
  unfold faK
  exact List.mem_cons_of_mem _ (List.mem_cons_of_mem _ (List.mem_cons_of_mem _ (List.mem_cons_of_mem _ (List.mem_append_left _ (List.mem_map.mpr ⟨f, hf, rfl⟩)))))
theorem says_def (c : He.SaysE (faL ds xs ex gi cl) (fnL ds) K) (hcl : clOk ds cl = true) {d : Df} (hd : d ∈ ds) : ∃ fd, Fun K (Str.ofString d.nm) (Str.ofString d.x) d.st (d.ad K) fd := by
  obtain ⟨i, hi, e⟩ := List.getElem_of_mem hd
  obtain ⟨oc, od, osl, kV, doc, pm, an, cdv, ct, l, cd⟩ := c.def_ i (d := ⟨d.at_, Str.ofString d.nm, Str.ofString d.x, defArgs d.st, defBody d.st, defScope d.st⟩) (by
    unfold fnL fnN
    rw [List.getElem?_map, List.getElem?_map, List.getElem?_eq_getElem hi, e]
    have : atN (d.x, d.nm, d.cls, d.st) = d.at_ := by unfold atN Df.at_; cases d.cls <;> rfl
    rw [← this]; rfl)
  have k : PySem.W.keepIn K (.ref (d.ad K)) = true := by
    cases hc : d.cls with
    | none =>
      rw [d.ad_fn hc]
      exact He.keep_ok (says_mem c (fa_fn (bs := []) hd hc).2)
    | some cn =>
      rw [d.ad_m hc]
      unfold clOk at hcl
      simp only [Bool.and_eq_true] at hcl
      have k := List.all_eq_true.mp hcl.2 d hd
      rw [hc] at k
      simp only [List.any_eq_true, Bool.and_eq_true, beq_iff_eq, Bool.or_eq_true] at k
      obtain ⟨p, hp, rfl, h⟩ := k
      rcases h with h | ⟨q, hq, h⟩
      · rw [h]
        exact (He.meth_ok (says_mem c (fa_cl hp (by unfold faK; exact List.mem_cons_of_mem _ (List.mem_cons_of_mem _ (List.mem_cons_of_mem _ List.mem_cons_self)))))).kp
      · rw [← h]
        exact (He.meth_ok (says_mem c (fa_cl hp (fa_meth hq)))).kp
  exact ⟨_, fun_mk l cd k⟩
theorem mem_of_lookup {m g : String} : ∀ {l : List (String × String)}, l.lookup m = some g → (m, g) ∈ l
  | [], h => by cases h
  | (a, b) :: r, h => by
    rw [List.lookup_cons] at h
    split at h
    · rename_i e
      cases h
      rw [beq_iff_eq.mp e]
      exact List.mem_cons_self
    · exact List.mem_cons_of_mem _ (mem_of_lookup h)
theorem hasD_ok {c m x : String} (h : hasD ds c m x = true) : ∃ d ∈ ds, d.x = x ∧ d.nm = m ∧ d.cls = some c := by
  unfold hasD at h
  simp only [List.any_eq_true, Bool.and_eq_true, beq_iff_eq] at h
  exact h
theorem md_of (X : K.In h) (G : h.Ns mainGlobals mg) (c : He.SaysE (faL ds xs ex gi cl) (fnL ds) K) (hcl : clOk ds cl = true) (hci : ∀ x, Pg.ci x = ciL cl x) (hfs : ∀ f ∈ fs, ∃ d ∈ ds, d.x = f ∧ d.cls = none) (hfn : ∀ d ∈ ds, Pg.fn d.x = some d.F) (hchk : ∀ d ∈ ds, chkD fs gs xs cs ks d = true) (hb : BindAll ds)
    (hgl : ∀ x, Pg.gl x = glL gi x) {iq : List (String × String × Bool)} (hQ : qAll iq K = true) (hC : cAll cs K = true) (p1 : xs.all plainName = true) (p2 : ex.all (fun p => plainName p.2.1) = true) : Md K mg (cvOf K) Pg (subQ ex iq) ds fs gs xs cs ks where
  hfs := fun f hf => by
    obtain ⟨d, hd, rfl, hn⟩ := hfs f hf
    have k := fa_fn (bs := []) (xs := xs) (ex := ex) (gi := gi) (cl := cl) hd hn
    exact ⟨d, hd, rfl, He.glo_ok X G (says_mem c k.1), d.ad_fn hn, He.keep_ok (says_mem c k.2)⟩
  hfn := hfn
  hchk := hchk
  hmg := fun d hd => by
    obtain ⟨fd, F⟩ := says_def c hcl hd
    exact ⟨fd, F, F.binds (hb.get d hd)⟩
  hks := fun cn _ I hI => by
    rw [hci] at hI
    unfold ciL at hI
    obtain ⟨p, hp, rfl⟩ := Option.map_eq_some_iff.mp hI
    have hm := List.mem_of_find?_eq_some hp
    have hq := List.find?_some hp
    simp only [beq_iff_eq] at hq
    subst hq
    have hcl' := hcl
    unfold clOk at hcl'
    simp only [Bool.and_eq_true] at hcl'
    have k := List.all_eq_true.mp hcl'.1 p hm
    simp only [Bool.and_eq_true, decide_eq_true_eq] at k
    obtain ⟨k1, k2, k3, k4⟩ := k
    refine ⟨He.glo_ok X G (says_mem c (fa_cl hm (by unfold faK; exact List.mem_cons_self))), ⟨He.cls_ok (says_mem c (fa_cl hm (by unfold faK; exact List.mem_cons_of_mem _ List.mem_cons_self))), fun f hf => He.noat_ok (says_mem c (fa_cl hm (fa_noat hf))), nodupB_ok k1, k2⟩, ?_, fun m g hg => ?_⟩
    · obtain ⟨d, hd, e1, e2, e3⟩ := hasD_ok k3
      refine ⟨d, hd, e1, ?_⟩
      rw [d.ad_m e3, e2]
      exact He.mkr_ok (says_mem c (fa_cl hm (by unfold faK; exact List.mem_cons_of_mem _ (List.mem_cons_of_mem _ List.mem_cons_self))))
    · have hmem := mem_of_lookup hg
      obtain ⟨d, hd, e1, e2, e3⟩ := hasD_ok (List.all_eq_true.mp k4 (m, g) hmem)
      refine ⟨d, hd, e1, ?_⟩
      rw [d.ad_m e3, e2]
      exact He.meth_ok (says_mem c (fa_cl hm (fa_meth hmem)))
  hblt := fun x hx => He.free_ok X G (says_mem c (by
    unfold faL faN
    exact List.mem_append_right _ (List.mem_append_right _ (List.mem_append_left _ (List.mem_map.mpr ⟨x, hx, rfl⟩)))))
  hxs := fun x hx => by
    have g := He.glo_ok X G (says_mem c (f := .glo (Str.ofString x)) (by
      unfold faL faN
      exact List.mem_append_right _ (List.mem_append_right _ (List.mem_append_right _ (List.mem_append_left _ (List.mem_map.mpr ⟨x, hx, rfl⟩))))))
    obtain ⟨e1, e2, e3, e4⟩ := He.exc_ok (says_mem c (f := .exc (Str.ofString x)) (by
      unfold faL faN
      exact List.mem_append_right _ (List.mem_append_right _ (List.mem_append_right _ (List.mem_append_right _ (List.mem_append_left _ (List.mem_map.mpr ⟨x, hx, rfl⟩)))))))
    exact ⟨_, g, rfl, e2, e3, e4, _, _, _, _, PySem.F.excBase_ValueError, e1⟩
  hsub := fun x hx x' r hr => by
    unfold subQ at hr
    split at hr
    · rename_i r' e
      cases hr
      unfold subL at e
      rw [Option.map_eq_some_iff] at e
      obtain ⟨p, hp, rfl⟩ := e
      have hm := List.mem_of_find?_eq_some hp
      have hq := List.find?_some hp
      simp only [Bool.and_eq_true, beq_iff_eq] at hq
      obtain ⟨rfl, rfl⟩ := hq
      exact He.exm_ok (says_mem c (by
        unfold faL faN
        exact List.mem_append_right _ (List.mem_append_right _ (List.mem_append_right _ (List.mem_append_right _ (List.mem_append_right _ (List.mem_append_left _ (List.mem_map.mpr ⟨p, hm, rfl⟩))))))))
    · rw [Option.map_eq_some_iff] at hr
      obtain ⟨p, hp, rfl⟩ := hr
      have hq := List.find?_some hp
      simp only [Bool.and_eq_true, beq_iff_eq] at hq
      exact absurd hq.2.symm (plain_ne (List.all_eq_true.mp p1 _ hx))
  hq := fun x d b hr => by
    unfold subQ at hr
    split at hr
    · rename_i r' e
      unfold subL at e
      rw [Option.map_eq_some_iff] at e
      obtain ⟨p, hp, rfl⟩ := e
      have hm := List.mem_of_find?_eq_some hp
      have hq := List.find?_some hp
      simp only [Bool.and_eq_true, beq_iff_eq] at hq
      exact absurd hq.2 (plain_ne (List.all_eq_true.mp p2 _ hm))
    · rw [Option.map_eq_some_iff] at hr
      obtain ⟨p, hp, rfl⟩ := hr
      have hm := List.mem_of_find?_eq_some hp
      have hq := List.find?_some hp
      simp only [Bool.and_eq_true, beq_iff_eq] at hq
      obtain ⟨rfl, e2⟩ := hq
      have e3 := q_inj e2
      subst e3
      have k := List.all_eq_true.mp hQ p hm
      unfold qOk at k
      simp only [Bool.and_eq_true, decide_eq_true_eq] at k
      obtain ⟨k1, k2, k3⟩ := k
      by_cases hv : p.2.1 = "ValueError"
      · rw [if_pos hv] at k3
        refine ⟨_, .ty "ValueError", .type "ValueError", rfl, excC_of k1, .inr ⟨hv, PySem.W.mg_none_of X G (He.eqO_ok k3), rfl, rfl⟩, ?_⟩
        rw [clsU, if_pos hv] at k2
        exact k2
      · rw [if_neg hv] at k3
        refine ⟨_, .ref _, .ref _, rfl, excC_of k1, .inl ⟨_, PySem.W.mg_of X G (He.eqO_ok k3), rfl, rfl⟩, ?_⟩
        rw [clsU, if_neg hv] at k2
        exact k2
  hcn := fun p hp => cAll_ok X G hC p hp
  hgl := fun x hx d hd => by
    rw [hgl] at hd
    unfold glL at hd
    rw [Option.map_eq_some_iff] at hd
    obtain ⟨p, hp, rfl⟩ := hd
    have hm := List.mem_of_find?_eq_some hp
    have hq := List.find?_some hp
    simp only [beq_iff_eq] at hq
    subst hq
    obtain ⟨t, ht⟩ := He.int_ok X G (says_mem c (f := .int (Str.ofString p.1) p.2) (by
      unfold faL faN
      exact List.mem_append_right _ (List.mem_append_right _ (List.mem_append_right _ (List.mem_append_right _ (List.mem_append_right _ (List.mem_append_right _ (List.mem_append_left _ (List.mem_map.mpr ⟨p, hm, rfl⟩)))))))))
    exact ⟨_, .int p.2, ht, ⟨t, rfl⟩, fun φ H => .int _⟩
/-- what a law's def is asked -/
theorem law_sp {cv : String → Value} {sub : String → String → Option Bool} {k : Nat} {x : String} {H : Hp} {a : Addr} {ns : List Int} {st' : Lg.Store} (hS : SqL K H a (ns.map V.int)) (e : Lg.callF Pg sub k x [.fro (ns.map .int)] [] = .ok (.bl true) st') :
    spC K cv (Lg.callF Pg sub k x) [.ref a] H (fun v _ => v = .bl true) fun _ _ _ => False := by
  refine ⟨[.fro (ns.map .int)], [], ⟨[], []⟩, .cons (.fro ?_ (reps_ints ns)) .nil, ⟨rfl, List.nodup_nil, (fun b hb => by cases hb), (fun l ds e => by simp at e), (fun l C ns ds e => by simp at e)⟩, ?_⟩
  · have o : (⟨[], []⟩ : Ph).out a := ⟨by simp, by simp⟩
    rcases hS with (hS | ⟨o', hS⟩) | hS
    · exact .inl ⟨hS, o⟩
    · exact .inr (.inl ⟨o', hS, o⟩)
    · exact .inr (.inr hS)
  · rw [e]
    intro φ' H' g rs v rv
    cases rv
    rfl
end
/-- a law's end: what the interpreter says at every script -/
theorem law_walk {l : PySem.W.OpenLaw} {k : Nat} {m : List Addr} {q : Program} {loose : List Str} {XP : (Str → Option Value) → Heap → Prop} {fa : List He.Fa} {fn : List He.FnD} {d : DefRec} {call : List Lg.D → Lg.Store → Lg.Out Lg.D} {qf : PySem.W.Frag → Bool} (hn : l.most = some 63) (hdf : d.params.defaults = []) (hx : d.name = ("law" : Str)) (hr : Room k callerA)
    (F : ∀ (w : World) (K : PySem.W.Frag) (mg : Str → Option Value) (f : Addr) (h : Heap), K.In h → h.Ns mainGlobals mg → mg ("law" : Str) = some (.ref f) → He.SaysE fa fn K → qf K = true →
      ∃ fd : FuncData, (∀ (s : Shared) (u : Value), BindsTo s fd ⟨[u], []⟩ [("script", u)]) ∧ ∀ base : Heap, K.In base → base.Ns mainGlobals mg → FnOk l.prog w K mg base (L2.CX l.prog w) k f fd ["script"] (spC K (cvOf K) call))
    (hq : ∀ (K : PySem.W.Frag) (H : Hp) (a : Addr) (ns : List Int), ns.length ≤ 63 → (∀ z ∈ ns, Lg.bits z ≤ 1048576) → SqL K H a (ns.map V.int) → spC K (cvOf K) call [.ref a] H (fun v _ => v = .bl true) fun _ _ _ => False) :
    PySem.W.WalkO q loose XP (hookA m fa fn qf).says l.row.toRowW d [] (fun f vs => PySem.call f vs) := by
  refine Att.attach_callB hn hdf fun w s₀ s₁ mg mb f o pm cd doc a vs ns G Y _ _ _ hmg hobj hints hlen hbits hg => ?_
  obtain ⟨K, KX, c, cq⟩ := Y
  rw [hx] at hmg
  obtain ⟨fd, hb, hF⟩ := F w K mg f _ KX G.T.g hmg c cq
  refine law_call KX G.T.g G.T.b G.T.builtins G.T.nolimit hg hobj hints (Nat.le_trans hlen (by decide)) hr hF hb (fun H _ hS => hq K H a ns hlen (fun z hz => ?_) hS) fun H e s' x => ?_
  · rw [bits_eq]; exact hbits z hz
  · obtain ⟨_, _, _, _, _, _, _, _, _, _, _, _, z⟩ := x
    exact z
end So
namespace Fn
def f_common : Lg.Fn := ⟨8, 2, (.cons (.ite (.and (.cmp .eq (.var 0) (.int 0)) (.cmp .eq (.var 1) (.int 0))) (.cons (.ret (.tup (.cons (.int 0) (.cons (.int 0) (.cons (.int 0) .nil))))) .nil) .nil) (.cons (.ite (.cmp .eq (.var 1) (.int 0)) (.cons (.ret (.tup (.cons (.prim .abs (.cons (.var 0) .nil)) (.cons (.ite (.cmp .gt (.var 0) (.int 0)) (.int 1) (.neg (.int 1))) (.cons (.int 0) .nil))))) .nil) .nil) (.cons (.ite (.cmp .eq (.var 0) (.int 0)) (.cons (.ret (.tup (.cons (.prim .abs (.cons (.var 1) .nil)) (.cons (.int 0) (.cons (.ite (.cmp .gt (.var 1) (.int 0)) (.int 1) (.neg (.int 1))) .nil))))) .nil) .nil) (.cons (.assign (.nm 2) (.tup (.cons (.prim .abs (.cons (.var 0) .nil)) (.cons (.int 1) (.cons (.int 0) .nil))))) (.cons (.assign (.nm 3) (.tup (.cons (.prim .abs (.cons (.var 1) .nil)) (.cons (.int 0) (.cons (.int 1) .nil))))) (.cons (.while (.cmp .ne (.ix (.var 3) (.int 0)) (.int 0)) (.cons (.assign (.nm 4) (.bin .fdiv (.ix (.var 2) (.int 0)) (.ix (.var 3) (.int 0)))) (.cons (.par2 2 3 (.var 3) (.tup (.cons (.bin .sub (.ix (.var 2) (.int 0)) (.bin .mul (.var 4) (.ix (.var 3) (.int 0)))) (.cons (.bin .sub (.ix (.var 2) (.int 1)) (.bin .mul (.var 4) (.ix (.var 3) (.int 1)))) (.cons (.bin .sub (.ix (.var 2) (.int 2)) (.bin .mul (.var 4) (.ix (.var 3) (.int 2)))) .nil))))) .nil))) (.cons (.assign (.tp (.cons (.nm 5) (.cons (.nm 6) (.cons (.nm 7) .nil)))) (.var 2)) (.cons (.ret (.tup (.cons (.var 5) (.cons (.ite (.cmp .gt (.var 0) (.int 0)) (.var 6) (.neg (.var 6))) (.cons (.ite (.cmp .gt (.var 1) (.int 0)) (.var 7) (.neg (.var 7))) .nil))))) .nil))))))))⟩
def f_divisor : Lg.Fn := ⟨2, 2, (.cons (.assign (.nm 0) (.prim .abs (.cons (.var 0) .nil))) (.cons (.assign (.nm 1) (.prim .abs (.cons (.var 1) .nil))) (.cons (.while (.cmp .ne (.var 1) (.int 0)) (.cons (.par2 0 1 (.var 1) (.bin .mod (.var 0) (.var 1))) .nil)) (.cons (.ret (.var 0)) .nil))))⟩
def f_fraction : Lg.Fn := ⟨3, 2, (.cons (.assign (.nm 2) (.call "divisor" (.cons (.var 0) (.cons (.var 1) .nil)))) (.cons (.ite (.cmp .lt (.var 1) (.int 0)) (.cons (.assign (.nm 2) (.neg (.var 2))) .nil) .nil) (.cons (.ret (.tup (.cons (.bin .fdiv (.var 0) (.var 2)) (.cons (.bin .fdiv (.var 1) (.var 2)) .nil)))) .nil)))⟩
def f__law_start : Lg.Fn := ⟨2, 1, (.cons (.ret (.lst true (.cons (.comp false [1] (.prim .int (.cons (.var 1) .nil)) (.nm 1) (.seq (.slice (.var 0) .none (.some (.int 63)))) .none) (.cons (.int 0) (.cons (.int 0) (.cons (.int 0) .nil)))))) .nil)⟩
def f__law_fill : Lg.Fn := ⟨2, 1, (.cons (.assign (.ix (.var 0) (.int 3)) (.bin .add (.ix (.var 0) (.int 3)) (.int 1))) (.cons (.assign (.nm 1) (.bin .add (.bin .mul (.ix (.var 0) (.int 3)) (.int 69621)) (.int 12345))) (.cons (.ite (.cmp .lt (.ix (.var 0) (.int 1)) (.prim .len (.cons (.ix (.var 0) (.int 0)) .nil))) (.cons (.assign (.nm 1) (.ix (.ix (.var 0) (.int 0)) (.ix (.var 0) (.int 1)))) (.cons (.assign (.ix (.var 0) (.int 1)) (.bin .add (.ix (.var 0) (.int 1)) (.int 1))) (.cons (.ite (.cmp .lt (.var 1) (.int 0)) (.cons (.assign (.nm 1) (.bin .sub (.bin .sub (.int 0) (.int 1)) (.var 1))) .nil) .nil) (.cons (.ite (.cmp .ge (.var 1) (.bin .pow (.int 10) (.int 18))) (.cons (.ret (.var 1)) .nil) .nil) .nil)))) .nil) (.cons (.ite (.and (.ix (.var 0) (.int 0)) (.cmp .ge (.ix (.var 0) (.int 1)) (.prim .len (.cons (.ix (.var 0) (.int 0)) .nil)))) (.cons (.assign (.nm 1) (.bin .add (.var 1) (.bin .mod (.prim .int (.cons (.ix (.ix (.var 0) (.int 0)) (.neg (.int 1))) .nil)) (.int 1000003)))) .nil) .nil) (.cons (.assign (.nm 1) (.bin .mod (.prim .int (.cons (.bin .add (.bin .mul (.var 1) (.int 48271)) (.bin .mul (.ix (.var 0) (.int 3)) (.int 69621))) .nil)) (.int 2147483647))) (.cons (.ret (.bin .add (.bin .fdiv (.prim .int (.cons (.bin .add (.bin .add (.bin .mul (.var 1) (.var 1)) (.bin .mul (.ix (.var 0) (.int 3)) (.int 7919))) (.int 11)) .nil)) (.int 64)) (.int 36028797018963968))) .nil))))))⟩
def f__law_take : Lg.Fn := ⟨3, 2, (.cons (.ite (.cmp .lt (.ix (.var 0) (.int 2)) (.var 1)) (.cons (.assign (.ix (.var 0) (.int 2)) (.call "_law_fill" (.cons (.var 0) .nil))) .nil) .nil) (.cons (.assign (.nm 2) (.bin .mod (.prim .int (.cons (.ix (.var 0) (.int 2)) .nil)) (.var 1))) (.cons (.assign (.ix (.var 0) (.int 2)) (.bin .fdiv (.ix (.var 0) (.int 2)) (.var 1))) (.cons (.ret (.var 2)) .nil))))⟩
def f__law_raised : Lg.Fn := ⟨4, 2, (.cons (.assign (.nm 2) (.int 1)) (.cons (.for (.nm 3) (.rng1 (.var 1)) (.cons (.assign (.nm 2) (.bin .mul (.var 2) (.var 0))) .nil)) (.cons (.ret (.var 2)) .nil)))⟩
def f__law_common : Lg.Fn := ⟨3, 2, (.cons (.assign (.nm 0) (.prim .abs (.cons (.var 0) .nil))) (.cons (.assign (.nm 1) (.prim .abs (.cons (.var 1) .nil))) (.cons (.while (.cmp .ne (.var 1) (.int 0)) (.cons (.assign (.nm 2) (.bin .mod (.prim .int (.cons (.var 0) .nil)) (.var 1))) (.cons (.assign (.nm 0) (.var 1)) (.cons (.assign (.nm 1) (.var 2)) .nil)))) (.cons (.ret (.var 0)) .nil))))⟩
def f__law_fraction : Lg.Fn := ⟨3, 2, (.cons (.assign (.nm 2) (.call "_law_common" (.cons (.var 0) (.cons (.var 1) .nil)))) (.cons (.ite (.cmp .lt (.var 1) (.int 0)) (.cons (.assign (.nm 2) (.bin .sub (.int 0) (.var 2))) .nil) .nil) (.cons (.ret (.tup (.cons (.bin .fdiv (.var 0) (.var 2)) (.cons (.bin .fdiv (.var 1) (.var 2)) .nil)))) .nil)))⟩
def f__law_integer : Lg.Fn := ⟨3, 1, (.cons (.assign (.nm 1) (.call "_law_take" (.cons (.var 0) (.cons (.int 10) .nil)))) (.cons (.assign (.nm 2) (.ix (.lst false (.cons (.call "_law_take" (.cons (.var 0) (.cons (.int 3) .nil))) (.cons (.call "_law_take" (.cons (.var 0) (.cons (.int 12) .nil))) (.cons (.call "_law_take" (.cons (.var 0) (.cons (.int 200) .nil))) (.cons (.bin .add (.bin .pow (.int 10) (.int 9)) (.call "_law_take" (.cons (.var 0) (.cons (.int 99) .nil)))) (.cons (.int 0) (.cons (.int 1) (.cons (.int 2) (.cons (.int 5) (.cons (.call "_law_take" (.cons (.var 0) (.cons (.bin .pow (.int 10) (.int 12)) .nil))) .nil)))))))))) (.prim .min2 (.cons (.var 1) (.cons (.int 8) .nil))))) (.cons (.ite (.cmp .eq (.var 1) (.int 9)) (.cons (.assign (.nm 2) (.bin .add (.call "_law_raised" (.cons (.int 10) (.cons (.call "_law_take" (.cons (.var 0) (.cons (.int 19) .nil))) .nil))) (.call "_law_take" (.cons (.var 0) (.cons (.bin .pow (.int 10) (.int 9)) .nil))))) .nil) .nil) (.cons (.ite (.cmp .eq (.call "_law_take" (.cons (.var 0) (.cons (.int 40) .nil))) (.int 0)) (.cons (.assign (.nm 2) (.bin .sub (.call "_law_raised" (.cons (.int 10) (.cons (.bin .add (.int 10) (.call "_law_take" (.cons (.var 0) (.cons (.int 30) .nil)))) .nil))) (.call "_law_take" (.cons (.var 0) (.cons (.int 1000) .nil))))) .nil) .nil) (.cons (.ite (.cmp .eq (.call "_law_take" (.cons (.var 0) (.cons (.int 2) .nil))) (.int 0)) (.cons (.ret (.bin .sub (.int 0) (.var 2))) .nil) .nil) (.cons (.ret (.var 2)) .nil))))))⟩
def f__law_same : Lg.Fn := ⟨3, 2, (.cons (.ite (.cmp .is (.var 1) .non) (.cons (.ret (.cmp .is (.var 0) .non)) .nil) .nil) (.cons (.ite (.isi2 .tuple .list (.var 1)) (.cons (.ite (.or (.not (.isi2 .tuple .list (.var 0))) (.or (.cmp .ne (.isi .list (.var 0)) (.isi .list (.var 1))) (.cmp .ne (.prim .len (.cons (.var 0) .nil)) (.prim .len (.cons (.var 1) .nil))))) (.cons (.ret (.bl false)) .nil) .nil) (.cons (.ret (.prim .all (.cons (.comp false [2] (.call "_law_same" (.cons (.ix (.var 0) (.var 2)) (.cons (.ix (.var 1) (.var 2)) .nil))) (.nm 2) (.rng1 (.prim .len (.cons (.var 1) .nil))) .none) .nil))) .nil)) .nil) (.cons (.ite (.isi .str (.var 1)) (.cons (.ret (.and (.isi .str (.var 0)) (.cmp .eq (.var 0) (.var 1)))) .nil) .nil) (.cons (.ret (.and (.isi .int (.var 0)) (.and (.cmp .eq (.isi .bool (.var 0)) (.isi .bool (.var 1))) (.cmp .eq (.var 0) (.var 1))))) .nil))))⟩
def f__law_part_a_b12fc0 : Lg.Fn := ⟨9, 1, (.cons (.assign (.nm 1) (.call "_law_start" (.cons (.var 0) .nil))) (.cons (.assign (.nm 2) (.call "_law_domain" (.cons (.var 1) .nil))) (.cons (.assign (.nm 3) (.ix (.lst false (.cons (.call "_law_domain" (.cons (.var 1) .nil)) (.cons (.tup (.cons (.str "Q") .nil)) (.cons (.tup (.cons (.str "P") (.cons (.var 2) .nil))) (.cons (.tup (.cons (.str "Z") .nil)) (.cons (.tup (.cons (.str "F") (.cons (.ix (.lst false (.cons (.int 2) (.cons (.int 3) (.cons (.int 7) .nil)))) (.call "_law_take" (.cons (.var 1) (.cons (.int 3) .nil)))) .nil))) .nil)))))) (.call "_law_take" (.cons (.var 1) (.cons (.int 5) .nil))))) (.cons (.ite (.cmp .eq (.call "_law_take" (.cons (.var 1) (.cons (.int 2) .nil))) (.int 0)) (.cons (.assign (.nm 2) (.ix (.lst false (.cons (.tup (.cons (.str "Z") .nil)) (.cons (.tup (.cons (.str "Q") .nil)) (.cons (.tup (.cons (.str "F") (.cons (.ix (.lst false (.cons (.int 2) (.cons (.int 5) (.cons (.int 65521) .nil)))) (.call "_law_take" (.cons (.var 1) (.cons (.int 3) .nil)))) .nil))) .nil)))) (.call "_law_take" (.cons (.var 1) (.cons (.int 3) .nil))))) (.cons (.assign (.nm 3) (.ite (.cmp .eq (.ix (.var 2) (.int 0)) (.str "F")) (.tup (.cons (.str "P") (.cons (.var 2) .nil))) (.tup (.cons (.str "F") (.cons (.ix (.lst false (.cons (.int 2) (.cons (.int 7) (.cons (.int 65519) (.cons (.int 65521) .nil))))) (.call "_law_take" (.cons (.var 1) (.cons (.int 4) .nil)))) .nil))))) (.cons (.ite (.and (.cmp .eq (.ix (.var 2) (.int 0)) (.str "Z")) (.cmp .eq (.call "_law_take" (.cons (.var 1) (.cons (.int 2) .nil))) (.int 0))) (.cons (.assign (.nm 3) (.tup (.cons (.str "Q") .nil))) .nil) .nil) .nil))) .nil) (.cons (.ite (.and (.cmp .eq (.ix (.var 3) (.int 0)) (.str "P")) (.cmp .isin (.ix (.ix (.var 3) (.int 1)) (.int 0)) (.lst false (.cons (.str "P") (.cons (.str "Z") .nil))))) (.cons (.assign (.nm 3) (.tup (.cons (.str "Q") .nil))) .nil) .nil) (.cons (.assign (.nm 4) (.call "_law_matrix" (.cons (.var 1) (.cons (.var 2) (.cons (.call "_law_shape" (.cons (.var 1) .nil)) (.cons (.call "_law_shape" (.cons (.var 1) .nil)) .nil)))))) (.cons (.assign (.nm 5) (.or (.and (.cmp .eq (.ix (.var 2) (.int 0)) (.str "Z")) (.cmp .isin (.ix (.var 3) (.int 0)) (.lst false (.cons (.str "Q") (.cons (.str "F") .nil))))) (.or (.and (.cmp .eq (.ix (.var 2) (.int 0)) (.str "Q")) (.cmp .isin (.ix (.var 3) (.int 0)) (.lst false (.cons (.str "Z") (.cons (.str "F") .nil))))) (.and (.cmp .eq (.ix (.var 3) (.int 0)) (.str "P")) (.cmp .eq (.ix (.var 3) (.int 1)) (.var 2)))))) (.cons (.ite (.cmp .eq (.var 2) (.var 3)) (.cons (.ret (.cmp .eq (.call "_law_told" (.cons (.var 2) (.cons (.var 3) (.cons (.var 4) .nil)))) (.var 4))) .nil) .nil) (.cons (.ite (.not (.var 5)) (.cons (.ret (.cmp .is (.call "_law_told" (.cons (.var 2) (.cons (.var 3) (.cons (.var 4) .nil)))) .non)) .nil) .nil) (.cons (.assign (.nm 6) (.lst true .nil)) (.cons (.for (.nm 7) (.seq (.ix (.var 4) (.int 2))) (.cons (.expr (.meth .append (.var 6) (.cons (.prim .tuple (.cons (.comp false [8] (.call "_law_changed" (.cons (.var 2) (.cons (.var 3) (.cons (.var 8) .nil)))) (.nm 8) (.seq (.var 7)) .none) .nil)) .nil))) (.cons (.ite (.cmp .isin .non (.ix (.var 6) (.neg (.int 1)))) (.cons (.ret (.cmp .is (.call "_law_told" (.cons (.var 2) (.cons (.var 3) (.cons (.var 4) .nil)))) .non)) .nil) .nil) .nil))) (.cons (.ret (.cmp .eq (.call "_law_told" (.cons (.var 2) (.cons (.var 3) (.cons (.var 4) .nil)))) (.tup (.cons (.ix (.var 4) (.int 0)) (.cons (.ix (.var 4) (.int 1)) (.cons (.prim .tuple (.cons (.var 6) .nil)) .nil)))))) .nil))))))))))))⟩
def f__law_part_b_ec9db8 : Lg.Fn := ⟨15, 1, (.cons (.assign (.nm 1) (.call "_law_start" (.cons (.var 0) .nil))) (.cons (.assign (.nm 2) (.call "_law_field" (.cons (.var 1) .nil))) (.cons (.assign (.nm 3) (.call "_law_take" (.cons (.var 1) (.cons (.int 5) .nil)))) (.cons (.assign (.nm 4) (.call "_law_matrix" (.cons (.var 1) (.cons (.var 2) (.cons (.var 3) (.cons (.var 3) .nil)))))) (.cons (.assign (.nm 5) (.call "_law_strip" (.cons (.var 2) (.cons (.comp false [6] (.call "_law_small" (.cons (.var 1) (.cons (.var 2) .nil))) (.nm 6) (.rng1 (.call "_law_take" (.cons (.var 1) (.cons (.int 6) .nil)))) .none) .nil)))) (.cons (.assign (.nm 7) (.call "_law_identity" (.cons (.var 2) (.cons (.var 3) .nil)))) (.cons (.assign (.nm 8) (.tup (.cons (.var 3) (.cons (.var 3) (.cons (.bin .mul (.tup (.cons (.bin .mul (.tup (.cons (.call "_law_zero" (.cons (.var 2) .nil)) .nil)) (.var 3)) .nil)) (.var 3)) .nil))))) (.cons (.for (.nm 9) (.seq (.var 5)) (.cons (.assign (.nm 10) (.lst true .nil)) (.cons (.for (.nm 11) (.rng1 (.var 3)) (.cons (.assign (.nm 12) (.ix (.ix (.var 8) (.int 2)) (.var 11))) (.cons (.assign (.nm 13) (.ix (.ix (.var 7) (.int 2)) (.var 11))) (.cons (.expr (.meth .append (.var 10) (.cons (.prim .tuple (.cons (.comp false [14] (.call "_law_add" (.cons (.var 2) (.cons (.ix (.var 12) (.var 14)) (.cons (.call "_law_multiply" (.cons (.var 2) (.cons (.var 9) (.cons (.ix (.var 13) (.var 14)) .nil)))) .nil)))) (.nm 14) (.rng1 (.var 3)) .none) .nil)) .nil))) .nil)))) (.cons (.assign (.nm 8) (.tup (.cons (.var 3) (.cons (.var 3) (.cons (.prim .tuple (.cons (.var 10) .nil)) .nil))))) (.cons (.assign (.nm 7) (.call "_law_product" (.cons (.var 2) (.cons (.var 7) (.cons (.var 4) .nil))))) .nil))))) (.cons (.ret (.call "_law_same" (.cons (.call "evaluated" (.cons (.var 2) (.cons (.var 5) (.cons (.var 4) .nil)))) (.cons (.var 8) .nil)))) .nil)))))))))⟩
def f_law : Lg.Fn := ⟨3, 1, (.cons (.assign (.nm 1) (.bin .mod (.bin .fdiv (.prim .sum (.cons (.comp false [2] (.prim .int (.cons (.var 2) .nil)) (.nm 2) (.seq (.slice (.var 0) .none (.some (.int 63)))) .none) .nil)) (.int 7)) (.int 2))) (.cons (.ite (.cmp .eq (.var 1) (.int 0)) (.cons (.ret (.call "_law_part_a" (.cons (.var 0) .nil))) .nil) .nil) (.cons (.ret (.call "_law_part_b" (.cons (.var 0) .nil))) .nil)))⟩
def f_is_prime : Lg.Fn := ⟨2, 1, (.cons (.ite (.cmp .lt (.var 0) (.int 4)) (.cons (.ret (.cmp .gt (.var 0) (.int 1))) .nil) .nil) (.cons (.ite (.cmp .eq (.bin .mod (.var 0) (.int 2)) (.int 0)) (.cons (.ret (.bl false)) .nil) .nil) (.cons (.assign (.nm 1) (.int 3)) (.cons (.while (.cmp .le (.bin .mul (.var 1) (.var 1)) (.var 0)) (.cons (.ite (.cmp .eq (.bin .mod (.var 0) (.var 1)) (.int 0)) (.cons (.ret (.bl false)) .nil) .nil) (.cons (.aug 1 .add (.int 2)) .nil))) (.cons (.ret (.bl true)) .nil)))))⟩
def f_is_integer : Lg.Fn := ⟨1, 1, (.cons (.ret (.and (.isi .int (.var 0)) (.not (.isi .bool (.var 0))))) .nil)⟩
def f_is_domain : Lg.Fn := ⟨1, 1, (.cons (.ite (.or (.not (.isi .tuple (.var 0))) (.or (.cmp .eq (.prim .len (.cons (.var 0) .nil)) (.int 0)) (.not (.isi .str (.ix (.var 0) (.int 0)))))) (.cons (.ret (.bl false)) .nil) .nil) (.cons (.ite (.cmp .eq (.ix (.var 0) (.int 0)) (.str "P")) (.cons (.ret (.and (.cmp .eq (.prim .len (.cons (.var 0) .nil)) (.int 2)) (.call "is_field" (.cons (.ix (.var 0) (.int 1)) .nil)))) .nil) .nil) (.cons (.ret (.or (.cmp .eq (.var 0) (.tup (.cons (.str "Z") .nil))) (.call "is_field" (.cons (.var 0) .nil)))) .nil)))⟩
def f_is_field : Lg.Fn := ⟨1, 1, (.cons (.ite (.or (.not (.isi .tuple (.var 0))) (.or (.cmp .eq (.prim .len (.cons (.var 0) .nil)) (.int 0)) (.not (.isi .str (.ix (.var 0) (.int 0)))))) (.cons (.ret (.bl false)) .nil) .nil) (.cons (.ite (.cmp .eq (.ix (.var 0) (.int 0)) (.str "Q")) (.cons (.ret (.cmp .eq (.prim .len (.cons (.var 0) .nil)) (.int 1))) .nil) .nil) (.cons (.ret (.and (.cmp .eq (.ix (.var 0) (.int 0)) (.str "F")) (.and (.cmp .eq (.prim .len (.cons (.var 0) .nil)) (.int 2)) (.and (.call "is_integer" (.cons (.ix (.var 0) (.int 1)) .nil)) (.and (.chain .lt .le (.int 1) (.ix (.var 0) (.int 1)) (.glob "MOST_PRIME")) (.call "is_prime" (.cons (.ix (.var 0) (.int 1)) .nil))))))) .nil)))⟩
def f_need_domain : Lg.Fn := ⟨1, 1, (.cons (.ite (.not (.call "is_domain" (.cons (.var 0) .nil))) (.cons (.raise "DomainError") .nil) .nil) .nil)⟩
def f_need_field : Lg.Fn := ⟨1, 1, (.cons (.ite (.not (.call "is_field" (.cons (.var 0) .nil))) (.cons (.raise "DomainError") .nil) .nil) .nil)⟩
def f_zero : Lg.Fn := ⟨1, 1, (.cons (.ite (.cmp .eq (.ix (.var 0) (.int 0)) (.str "Q")) (.cons (.ret (.tup (.cons (.int 0) (.cons (.int 1) .nil)))) .nil) .nil) (.cons (.ret (.ite (.cmp .eq (.ix (.var 0) (.int 0)) (.str "P")) (.tup .nil) (.int 0))) .nil))⟩
def f_one : Lg.Fn := ⟨1, 1, (.cons (.ite (.cmp .eq (.ix (.var 0) (.int 0)) (.str "Q")) (.cons (.ret (.tup (.cons (.int 1) (.cons (.int 1) .nil)))) .nil) .nil) (.cons (.ret (.ite (.cmp .eq (.ix (.var 0) (.int 0)) (.str "P")) (.tup (.cons (.call "one" (.cons (.ix (.var 0) (.int 1)) .nil)) .nil)) (.int 1))) .nil))⟩
def f_from_integer : Lg.Fn := ⟨2, 2, (.cons (.ite (.cmp .eq (.ix (.var 0) (.int 0)) (.str "Z")) (.cons (.ret (.var 1)) .nil) .nil) (.cons (.ite (.cmp .eq (.ix (.var 0) (.int 0)) (.str "Q")) (.cons (.ret (.tup (.cons (.var 1) (.cons (.int 1) .nil)))) .nil) .nil) (.cons (.ite (.cmp .eq (.ix (.var 0) (.int 0)) (.str "F")) (.cons (.ret (.bin .mod (.var 1) (.ix (.var 0) (.int 1)))) .nil) .nil) (.cons (.ret (.call "trimmed" (.cons (.ix (.var 0) (.int 1)) (.cons (.lst false (.cons (.call "from_integer" (.cons (.ix (.var 0) (.int 1)) (.cons (.var 1) .nil))) .nil)) .nil)))) .nil))))⟩
def f_trimmed : Lg.Fn := ⟨3, 2, (.cons (.assign (.nm 2) (.prim .len (.cons (.var 1) .nil))) (.cons (.while (.and (.cmp .gt (.var 2) (.int 0)) (.cmp .eq (.ix (.var 1) (.bin .sub (.var 2) (.int 1))) (.call "zero" (.cons (.var 0) .nil)))) (.cons (.aug 2 .sub (.int 1)) .nil)) (.cons (.ret (.prim .tuple (.cons (.slice (.var 1) .none (.some (.var 2))) .nil))) .nil)))⟩
def f_add : Lg.Fn := ⟨7, 3, (.cons (.ite (.cmp .eq (.ix (.var 0) (.int 0)) (.str "Z")) (.cons (.ret (.bin .add (.var 1) (.var 2))) .nil) .nil) (.cons (.ite (.cmp .eq (.ix (.var 0) (.int 0)) (.str "F")) (.cons (.ret (.bin .mod (.bin .add (.var 1) (.var 2)) (.ix (.var 0) (.int 1)))) .nil) .nil) (.cons (.ite (.cmp .eq (.ix (.var 0) (.int 0)) (.str "Q")) (.cons (.ret (.call "fraction" (.cons (.bin .add (.bin .mul (.ix (.var 1) (.int 0)) (.ix (.var 2) (.int 1))) (.bin .mul (.ix (.var 2) (.int 0)) (.ix (.var 1) (.int 1)))) (.cons (.bin .mul (.ix (.var 1) (.int 1)) (.ix (.var 2) (.int 1))) .nil)))) .nil) .nil) (.cons (.assign (.nm 3) (.ix (.var 0) (.int 1))) (.cons (.ite (.cmp .lt (.prim .len (.cons (.var 1) .nil)) (.prim .len (.cons (.var 2) .nil))) (.cons (.par2 1 2 (.var 2) (.var 1)) .nil) .nil) (.cons (.assign (.nm 4) (.prim (.list true) (.cons (.var 1) .nil))) (.cons (.for (.tp (.cons (.nm 5) (.cons (.nm 6) .nil))) (.enum (.var 2)) (.cons (.assign (.ix (.var 4) (.var 5)) (.call "add" (.cons (.var 3) (.cons (.ix (.var 4) (.var 5)) (.cons (.var 6) .nil))))) .nil)) (.cons (.ret (.call "trimmed" (.cons (.var 3) (.cons (.var 4) .nil)))) .nil))))))))⟩
def f_multiply : Lg.Fn := ⟨10, 3, (.cons (.ite (.cmp .eq (.ix (.var 0) (.int 0)) (.str "Z")) (.cons (.ret (.bin .mul (.var 1) (.var 2))) .nil) .nil) (.cons (.ite (.cmp .eq (.ix (.var 0) (.int 0)) (.str "F")) (.cons (.ret (.bin .mod (.bin .mul (.var 1) (.var 2)) (.ix (.var 0) (.int 1)))) .nil) .nil) (.cons (.ite (.cmp .eq (.ix (.var 0) (.int 0)) (.str "Q")) (.cons (.ret (.call "fraction" (.cons (.bin .mul (.ix (.var 1) (.int 0)) (.ix (.var 2) (.int 0))) (.cons (.bin .mul (.ix (.var 1) (.int 1)) (.ix (.var 2) (.int 1))) .nil)))) .nil) .nil) (.cons (.ite (.or (.cmp .eq (.prim .len (.cons (.var 1) .nil)) (.int 0)) (.cmp .eq (.prim .len (.cons (.var 2) .nil)) (.int 0))) (.cons (.ret (.tup .nil)) .nil) .nil) (.cons (.assign (.nm 3) (.ix (.var 0) (.int 1))) (.cons (.assign (.nm 4) (.comp true [5] (.call "zero" (.cons (.var 3) .nil)) (.nm 5) (.rng1 (.bin .sub (.bin .add (.prim .len (.cons (.var 1) .nil)) (.prim .len (.cons (.var 2) .nil))) (.int 1))) .none)) (.cons (.for (.tp (.cons (.nm 6) (.cons (.nm 7) .nil))) (.enum (.var 1)) (.cons (.for (.tp (.cons (.nm 8) (.cons (.nm 9) .nil))) (.enum (.var 2)) (.cons (.assign (.ix (.var 4) (.bin .add (.var 6) (.var 8))) (.call "add" (.cons (.var 3) (.cons (.ix (.var 4) (.bin .add (.var 6) (.var 8))) (.cons (.call "multiply" (.cons (.var 3) (.cons (.var 7) (.cons (.var 9) .nil)))) .nil))))) .nil)) .nil)) (.cons (.ret (.call "trimmed" (.cons (.var 3) (.cons (.var 4) .nil)))) .nil))))))))⟩
def f_inverse : Lg.Fn := ⟨5, 2, (.cons (.expr (.call "need_field" (.cons (.var 0) .nil))) (.cons (.ite (.cmp .eq (.var 1) (.call "zero" (.cons (.var 0) .nil))) (.cons (.raise "SingularError") .nil) .nil) (.cons (.ite (.cmp .eq (.ix (.var 0) (.int 0)) (.str "Q")) (.cons (.ret (.call "fraction" (.cons (.ix (.var 1) (.int 1)) (.cons (.ix (.var 1) (.int 0)) .nil)))) .nil) .nil) (.cons (.assign (.tp (.cons (.nm 2) (.cons (.nm 3) (.cons (.nm 4) .nil)))) (.call "common" (.cons (.var 1) (.cons (.ix (.var 0) (.int 1)) .nil)))) (.cons (.ret (.bin .mod (.var 3) (.ix (.var 0) (.int 1)))) .nil)))))⟩
def f_quotient : Lg.Fn := ⟨3, 3, (.cons (.ret (.call "multiply" (.cons (.var 0) (.cons (.var 1) (.cons (.call "inverse" (.cons (.var 0) (.cons (.var 2) .nil))) .nil))))) .nil)⟩
def f__law_zero : Lg.Fn := ⟨1, 1, (.cons (.ite (.cmp .eq (.ix (.var 0) (.int 0)) (.str "Q")) (.cons (.ret (.tup (.cons (.int 0) (.cons (.int 1) .nil)))) .nil) .nil) (.cons (.ite (.cmp .eq (.ix (.var 0) (.int 0)) (.str "P")) (.cons (.ret (.tup .nil)) .nil) .nil) (.cons (.ret (.int 0)) .nil)))⟩
def f__law_strip : Lg.Fn := ⟨3, 2, (.cons (.assign (.nm 2) (.prim .len (.cons (.var 1) .nil))) (.cons (.while (.and (.cmp .gt (.var 2) (.int 0)) (.cmp .eq (.ix (.var 1) (.bin .sub (.var 2) (.int 1))) (.call "_law_zero" (.cons (.var 0) .nil)))) (.cons (.assign (.nm 2) (.bin .sub (.var 2) (.int 1))) .nil)) (.cons (.ret (.prim .tuple (.cons (.slice (.var 1) .none (.some (.var 2))) .nil))) .nil)))⟩
def f__law_number : Lg.Fn := ⟨2, 2, (.cons (.ite (.cmp .eq (.ix (.var 0) (.int 0)) (.str "Q")) (.cons (.ret (.tup (.cons (.var 1) (.cons (.int 1) .nil)))) .nil) .nil) (.cons (.ite (.cmp .eq (.ix (.var 0) (.int 0)) (.str "F")) (.cons (.ret (.bin .mod (.prim .int (.cons (.var 1) .nil)) (.ix (.var 0) (.int 1)))) .nil) .nil) (.cons (.ite (.cmp .eq (.ix (.var 0) (.int 0)) (.str "P")) (.cons (.ret (.call "_law_strip" (.cons (.ix (.var 0) (.int 1)) (.cons (.lst false (.cons (.call "_law_number" (.cons (.ix (.var 0) (.int 1)) (.cons (.var 1) .nil))) .nil)) .nil)))) .nil) .nil) (.cons (.ret (.var 1)) .nil))))⟩
def f__law_part : Lg.Fn := ⟨3, 3, (.cons (.ite (.cmp .lt (.var 2) (.prim .len (.cons (.var 1) .nil))) (.cons (.ret (.ix (.var 1) (.var 2))) .nil) .nil) (.cons (.ret (.call "_law_zero" (.cons (.var 0) .nil))) .nil))⟩
def f__law_add : Lg.Fn := ⟨5, 3, (.cons (.ite (.cmp .eq (.ix (.var 0) (.int 0)) (.str "Q")) (.cons (.ret (.call "_law_fraction" (.cons (.bin .add (.bin .mul (.ix (.var 1) (.int 0)) (.ix (.var 2) (.int 1))) (.bin .mul (.ix (.var 2) (.int 0)) (.ix (.var 1) (.int 1)))) (.cons (.bin .mul (.ix (.var 1) (.int 1)) (.ix (.var 2) (.int 1))) .nil)))) .nil) .nil) (.cons (.ite (.cmp .eq (.ix (.var 0) (.int 0)) (.str "F")) (.cons (.ret (.bin .mod (.prim .int (.cons (.bin .add (.var 1) (.var 2)) .nil)) (.ix (.var 0) (.int 1)))) .nil) .nil) (.cons (.ite (.cmp .eq (.ix (.var 0) (.int 0)) (.str "P")) (.cons (.assign (.nm 3) (.prim .max2 (.cons (.prim .len (.cons (.var 1) .nil)) (.cons (.prim .len (.cons (.var 2) .nil)) .nil)))) (.cons (.ret (.call "_law_strip" (.cons (.ix (.var 0) (.int 1)) (.cons (.comp false [4] (.call "_law_add" (.cons (.ix (.var 0) (.int 1)) (.cons (.call "_law_part" (.cons (.ix (.var 0) (.int 1)) (.cons (.var 1) (.cons (.var 4) .nil)))) (.cons (.call "_law_part" (.cons (.ix (.var 0) (.int 1)) (.cons (.var 2) (.cons (.var 4) .nil)))) .nil)))) (.nm 4) (.rng1 (.var 3)) .none) .nil)))) .nil)) .nil) (.cons (.ret (.bin .add (.var 1) (.var 2))) .nil))))⟩
def f__law_multiply : Lg.Fn := ⟨6, 3, (.cons (.ite (.cmp .eq (.ix (.var 0) (.int 0)) (.str "Q")) (.cons (.ret (.call "_law_fraction" (.cons (.bin .mul (.ix (.var 1) (.int 0)) (.ix (.var 2) (.int 0))) (.cons (.bin .mul (.ix (.var 1) (.int 1)) (.ix (.var 2) (.int 1))) .nil)))) .nil) .nil) (.cons (.ite (.cmp .eq (.ix (.var 0) (.int 0)) (.str "F")) (.cons (.ret (.bin .mod (.prim .int (.cons (.bin .mul (.var 1) (.var 2)) .nil)) (.ix (.var 0) (.int 1)))) .nil) .nil) (.cons (.ite (.cmp .eq (.ix (.var 0) (.int 0)) (.str "P")) (.cons (.assign (.nm 3) (.lrep (.lst false (.cons (.call "_law_zero" (.cons (.ix (.var 0) (.int 1)) .nil)) .nil)) (.bin .add (.prim .len (.cons (.var 1) .nil)) (.prim .len (.cons (.var 2) .nil))))) (.cons (.for (.nm 4) (.rng1 (.prim .len (.cons (.var 1) .nil))) (.cons (.for (.nm 5) (.rng1 (.prim .len (.cons (.var 2) .nil))) (.cons (.assign (.ix (.var 3) (.bin .add (.var 4) (.var 5))) (.call "_law_add" (.cons (.ix (.var 0) (.int 1)) (.cons (.ix (.var 3) (.bin .add (.var 4) (.var 5))) (.cons (.call "_law_multiply" (.cons (.ix (.var 0) (.int 1)) (.cons (.ix (.var 1) (.var 4)) (.cons (.ix (.var 2) (.var 5)) .nil)))) .nil))))) .nil)) .nil)) (.cons (.ret (.call "_law_strip" (.cons (.ix (.var 0) (.int 1)) (.cons (.var 3) .nil)))) .nil))) .nil) (.cons (.ret (.bin .mul (.var 1) (.var 2))) .nil))))⟩
def f__law_subtract : Lg.Fn := ⟨3, 3, (.cons (.ret (.call "_law_add" (.cons (.var 0) (.cons (.var 1) (.cons (.call "_law_multiply" (.cons (.var 0) (.cons (.call "_law_number" (.cons (.var 0) (.cons (.bin .sub (.int 0) (.int 1)) .nil))) (.cons (.var 2) .nil)))) .nil))))) .nil)⟩
def f__law_power : Lg.Fn := ⟨4, 3, (.cons (.assign (.nm 3) (.call "_law_number" (.cons (.var 0) (.cons (.int 1) .nil)))) (.cons (.while (.cmp .gt (.var 2) (.int 0)) (.cons (.ite (.cmp .eq (.bin .mod (.prim .int (.cons (.var 2) .nil)) (.int 2)) (.int 1)) (.cons (.assign (.nm 3) (.call "_law_multiply" (.cons (.var 0) (.cons (.var 3) (.cons (.var 1) .nil))))) .nil) .nil) (.cons (.assign (.nm 1) (.call "_law_multiply" (.cons (.var 0) (.cons (.var 1) (.cons (.var 1) .nil))))) (.cons (.assign (.nm 2) (.bin .fdiv (.var 2) (.int 2))) .nil)))) (.cons (.ret (.var 3)) .nil)))⟩
def f__law_inverse : Lg.Fn := ⟨2, 2, (.cons (.ite (.cmp .eq (.ix (.var 0) (.int 0)) (.str "Q")) (.cons (.ret (.call "_law_fraction" (.cons (.ix (.var 1) (.int 1)) (.cons (.ix (.var 1) (.int 0)) .nil)))) .nil) .nil) (.cons (.ret (.call "_law_power" (.cons (.var 0) (.cons (.var 1) (.cons (.bin .sub (.ix (.var 0) (.int 1)) (.int 2)) .nil))))) .nil))⟩
def f__law_some_prime : Lg.Fn := ⟨3, 1, (.cons (.assign (.nm 1) (.bin .add (.int 2) (.call "_law_take" (.cons (.var 0) (.cons (.int 65520) .nil))))) (.cons (.while (.prim .any (.cons (.comp false [2] (.cmp .eq (.bin .mod (.prim .int (.cons (.var 1) .nil)) (.var 2)) (.int 0)) (.nm 2) (.rng2 (.int 2) (.int 257)) (.some (.cmp .le (.bin .mul (.var 2) (.var 2)) (.var 1)))) .nil)) (.cons (.assign (.nm 1) (.bin .add (.var 1) (.int 1))) .nil)) (.cons (.ret (.var 1)) .nil)))⟩
def f__law_field : Lg.Fn := ⟨3, 1, (.cons (.assign (.nm 1) (.lst false (.cons (.int 2) (.cons (.int 3) (.cons (.int 5) (.cons (.int 7) (.cons (.int 11) (.cons (.int 101) (.cons (.int 65521) .nil))))))))) (.cons (.assign (.nm 2) (.call "_law_take" (.cons (.var 0) (.cons (.int 14) .nil)))) (.cons (.ite (.cmp .lt (.var 2) (.int 4)) (.cons (.ret (.tup (.cons (.str "Q") .nil))) .nil) .nil) (.cons (.ite (.cmp .gt (.var 2) (.int 10)) (.cons (.ret (.tup (.cons (.str "F") (.cons (.call "_law_some_prime" (.cons (.var 0) .nil)) .nil)))) .nil) .nil) (.cons (.ret (.tup (.cons (.str "F") (.cons (.ix (.var 1) (.bin .sub (.var 2) (.int 4))) .nil)))) .nil)))))⟩
def f__law_domain : Lg.Fn := ⟨2, 1, (.cons (.assign (.nm 1) (.call "_law_take" (.cons (.var 0) (.cons (.int 6) .nil)))) (.cons (.ite (.cmp .eq (.var 1) (.int 0)) (.cons (.ret (.tup (.cons (.str "Z") .nil))) .nil) .nil) (.cons (.ite (.cmp .gt (.var 1) (.int 3)) (.cons (.ret (.tup (.cons (.str "P") (.cons (.call "_law_field" (.cons (.var 0) .nil)) .nil)))) .nil) .nil) (.cons (.ret (.call "_law_field" (.cons (.var 0) .nil))) .nil))))⟩
def f__law_element : Lg.Fn := ⟨4, 2, (.cons (.assign (.nm 2) (.call "_law_integer" (.cons (.var 0) .nil))) (.cons (.ite (.cmp .gt (.prim .abs (.cons (.var 2) .nil)) (.bin .pow (.int 10) (.int 12))) (.cons (.assign (.nm 2) (.bin .mul (.bin .mod (.prim .int (.cons (.var 2) .nil)) (.bin .pow (.int 10) (.int 12))) (.ix (.lst false (.cons (.int 1) (.cons (.bin .sub (.int 0) (.int 1)) .nil))) (.call "_law_take" (.cons (.var 0) (.cons (.int 2) .nil)))))) .nil) .nil) (.cons (.ite (.cmp .eq (.ix (.var 1) (.int 0)) (.str "F")) (.cons (.ret (.bin .mod (.prim .int (.cons (.call "_law_take" (.cons (.var 0) (.cons (.int 65536) .nil))) .nil)) (.ix (.var 1) (.int 1)))) .nil) .nil) (.cons (.ite (.cmp .eq (.ix (.var 1) (.int 0)) (.str "Q")) (.cons (.ret (.call "_law_fraction" (.cons (.var 2) (.cons (.ix (.lst false (.cons (.int 1) (.cons (.int 1) (.cons (.int 2) (.cons (.int 3) (.cons (.bin .add (.int 1) (.call "_law_take" (.cons (.var 0) (.cons (.int 50) .nil)))) .nil)))))) (.call "_law_take" (.cons (.var 0) (.cons (.int 5) .nil)))) .nil)))) .nil) .nil) (.cons (.ite (.cmp .eq (.ix (.var 1) (.int 0)) (.str "P")) (.cons (.ret (.call "_law_strip" (.cons (.ix (.var 1) (.int 1)) (.cons (.comp false [3] (.call "_law_small" (.cons (.var 0) (.cons (.ix (.var 1) (.int 1)) .nil))) (.nm 3) (.rng1 (.call "_law_take" (.cons (.var 0) (.cons (.int 5) .nil)))) .none) .nil)))) .nil) .nil) (.cons (.ret (.var 2)) .nil))))))⟩
def f__law_small : Lg.Fn := ⟨3, 2, (.cons (.ite (.cmp .eq (.ix (.var 1) (.int 0)) (.str "F")) (.cons (.ret (.bin .mod (.prim .int (.cons (.call "_law_take" (.cons (.var 0) (.cons (.int 65536) .nil))) .nil)) (.ix (.var 1) (.int 1)))) .nil) .nil) (.cons (.ite (.cmp .eq (.ix (.var 1) (.int 0)) (.str "Q")) (.cons (.ret (.call "_law_fraction" (.cons (.bin .sub (.call "_law_take" (.cons (.var 0) (.cons (.int 9) .nil))) (.int 4)) (.cons (.bin .add (.int 1) (.call "_law_take" (.cons (.var 0) (.cons (.int 3) .nil)))) .nil)))) .nil) .nil) (.cons (.ite (.cmp .eq (.ix (.var 1) (.int 0)) (.str "P")) (.cons (.ret (.call "_law_strip" (.cons (.ix (.var 1) (.int 1)) (.cons (.comp false [2] (.call "_law_small" (.cons (.var 0) (.cons (.ix (.var 1) (.int 1)) .nil))) (.nm 2) (.rng1 (.call "_law_take" (.cons (.var 0) (.cons (.int 3) .nil)))) .none) .nil)))) .nil) .nil) (.cons (.ret (.ix (.lst false (.cons (.bin .sub (.call "_law_take" (.cons (.var 0) (.cons (.int 9) .nil))) (.int 4)) (.cons (.int 0) (.cons (.int 0) (.cons (.int 1) (.cons (.bin .sub (.call "_law_take" (.cons (.var 0) (.cons (.int 99) .nil))) (.int 49)) .nil)))))) (.call "_law_take" (.cons (.var 0) (.cons (.int 5) .nil))))) .nil))))⟩
def f__law_told_2c9aa0 : Lg.Fn := ⟨4, 3, (.cons (.tryx (.cons (.assign (.nm 3) (.call "change" (.cons (.var 0) (.cons (.var 1) (.cons (.var 2) .nil))))) .nil) "DomainError" (.cons (.ret .non) .nil)) (.cons (.ret (.ite (.cmp .is (.var 3) .non) (.tup (.cons (.str "none") .nil)) (.var 3))) .nil))⟩
def f_need_shape : Lg.Fn := ⟨1, 1, (.cons (.ite (.not (.var 0)) (.cons (.raise "ShapeError") .nil) .nil) .nil)⟩
def f_identity : Lg.Fn := ⟨5, 2, (.cons (.expr (.call "need_domain" (.cons (.var 0) .nil))) (.cons (.assign (.nm 2) (.lst true .nil)) (.cons (.for (.nm 3) (.rng1 (.var 1)) (.cons (.expr (.meth .append (.var 2) (.cons (.prim .tuple (.cons (.comp false [4] (.ite (.cmp .eq (.var 3) (.var 4)) (.call "one" (.cons (.var 0) .nil)) (.call "zero" (.cons (.var 0) .nil))) (.nm 4) (.rng1 (.var 1)) .none) .nil)) .nil))) .nil)) (.cons (.ret (.tup (.cons (.var 1) (.cons (.var 1) (.cons (.prim .tuple (.cons (.var 2) .nil)) .nil))))) .nil))))⟩
def f_zero_matrix : Lg.Fn := ⟨5, 3, (.cons (.expr (.call "need_domain" (.cons (.var 0) .nil))) (.cons (.ret (.tup (.cons (.var 1) (.cons (.var 2) (.cons (.prim .tuple (.cons (.comp false [4] (.prim .tuple (.cons (.comp false [3] (.call "zero" (.cons (.var 0) .nil)) (.nm 3) (.rng1 (.var 2)) .none) .nil)) (.nm 4) (.rng1 (.var 1)) .none) .nil)) .nil))))) .nil))⟩
def f__law_matrix : Lg.Fn := ⟨6, 4, (.cons (.ret (.tup (.cons (.var 2) (.cons (.var 3) (.cons (.prim .tuple (.cons (.comp false [5] (.prim .tuple (.cons (.comp false [4] (.call "_law_small" (.cons (.var 0) (.cons (.var 1) .nil))) (.nm 4) (.rng1 (.var 3)) .none) .nil)) (.nm 5) (.rng1 (.var 2)) .none) .nil)) .nil))))) .nil)⟩
def f__law_dot : Lg.Fn := ⟨5, 3, (.cons (.assign (.nm 3) (.call "_law_zero" (.cons (.var 0) .nil))) (.cons (.for (.nm 4) (.rng1 (.prim .len (.cons (.var 1) .nil))) (.cons (.assign (.nm 3) (.call "_law_add" (.cons (.var 0) (.cons (.var 3) (.cons (.call "_law_multiply" (.cons (.var 0) (.cons (.ix (.var 1) (.var 4)) (.cons (.ix (.var 2) (.var 4)) .nil)))) .nil))))) .nil)) (.cons (.ret (.var 3)) .nil)))⟩
def f__law_column : Lg.Fn := ⟨3, 2, (.cons (.ret (.prim .tuple (.cons (.comp false [2] (.ix (.var 2) (.var 1)) (.nm 2) (.seq (.ix (.var 0) (.int 2))) .none) .nil))) .nil)⟩
def f__law_product : Lg.Fn := ⟨7, 3, (.cons (.assign (.nm 3) (.comp false [4] (.call "_law_column" (.cons (.var 2) (.cons (.var 4) .nil))) (.nm 4) (.rng1 (.ix (.var 2) (.int 1))) .none)) (.cons (.ret (.tup (.cons (.ix (.var 1) (.int 0)) (.cons (.ix (.var 2) (.int 1)) (.cons (.prim .tuple (.cons (.comp false [6] (.prim .tuple (.cons (.comp false [5] (.call "_law_dot" (.cons (.var 0) (.cons (.var 6) (.cons (.var 5) .nil)))) (.nm 5) (.seq (.var 3)) .none) .nil)) (.nm 6) (.seq (.ix (.var 1) (.int 2))) .none) .nil)) .nil))))) .nil))⟩
def f__law_identity : Lg.Fn := ⟨5, 2, (.cons (.assign (.nm 2) (.lst false (.cons (.call "_law_number" (.cons (.var 0) (.cons (.int 0) .nil))) (.cons (.call "_law_number" (.cons (.var 0) (.cons (.int 1) .nil))) .nil)))) (.cons (.ret (.tup (.cons (.var 1) (.cons (.var 1) (.cons (.prim .tuple (.cons (.comp false [4] (.prim .tuple (.cons (.comp false [3] (.ix (.var 2) (.prim .int (.cons (.cmp .eq (.var 4) (.var 3)) .nil))) (.nm 3) (.rng1 (.var 1)) .none) .nil)) (.nm 4) (.rng1 (.var 1)) .none) .nil)) .nil))))) .nil))⟩
def f__law_shape : Lg.Fn := ⟨1, 1, (.cons (.ret (.ix (.lst false (.cons (.call "_law_take" (.cons (.var 0) (.cons (.int 4) .nil))) (.cons (.bin .add (.int 1) (.call "_law_take" (.cons (.var 0) (.cons (.int 4) .nil)))) (.cons (.int 0) (.cons (.int 1) (.cons (.int 2) (.cons (.int 3) .nil))))))) (.call "_law_take" (.cons (.var 0) (.cons (.int 6) .nil))))) .nil)⟩
def f_need_square : Lg.Fn := ⟨1, 1, (.cons (.expr (.call "need_shape" (.cons (.cmp .eq (.ix (.var 0) (.int 0)) (.ix (.var 0) (.int 1))) .nil))) .nil)⟩
def f_plus : Lg.Fn := ⟨8, 3, (.cons (.expr (.call "need_domain" (.cons (.var 0) .nil))) (.cons (.expr (.call "need_shape" (.cons (.cmp .eq (.slice (.var 1) .none (.some (.int 2))) (.slice (.var 2) .none (.some (.int 2)))) .nil))) (.cons (.assign (.nm 3) (.lst true .nil)) (.cons (.for (.tp (.cons (.nm 4) (.cons (.nm 5) .nil))) (.enum (.ix (.var 1) (.int 2))) (.cons (.expr (.meth .append (.var 3) (.cons (.prim .tuple (.cons (.comp false [6, 7] (.call "add" (.cons (.var 0) (.cons (.var 7) (.cons (.ix (.ix (.ix (.var 2) (.int 2)) (.var 4)) (.var 6)) .nil)))) (.tp (.cons (.nm 6) (.cons (.nm 7) .nil))) (.enum (.var 5)) .none) .nil)) .nil))) .nil)) (.cons (.ret (.tup (.cons (.ix (.var 1) (.int 0)) (.cons (.ix (.var 1) (.int 1)) (.cons (.prim .tuple (.cons (.var 3) .nil)) .nil))))) .nil)))))⟩
def f_dot : Lg.Fn := ⟨6, 3, (.cons (.assign (.nm 3) (.call "zero" (.cons (.var 0) .nil))) (.cons (.for (.tp (.cons (.nm 4) (.cons (.nm 5) .nil))) (.enum (.var 1)) (.cons (.assign (.nm 3) (.call "add" (.cons (.var 0) (.cons (.var 3) (.cons (.call "multiply" (.cons (.var 0) (.cons (.var 5) (.cons (.ix (.var 2) (.var 4)) .nil)))) .nil))))) .nil)) (.cons (.ret (.var 3)) .nil)))⟩
def f_times : Lg.Fn := ⟨7, 3, (.cons (.expr (.call "need_domain" (.cons (.var 0) .nil))) (.cons (.expr (.call "need_shape" (.cons (.cmp .eq (.ix (.var 1) (.int 1)) (.ix (.var 2) (.int 0))) .nil))) (.cons (.assign (.nm 3) (.ix (.call "transposed" (.cons (.var 2) .nil)) (.int 2))) (.cons (.assign (.nm 4) (.lst true .nil)) (.cons (.for (.nm 5) (.seq (.ix (.var 1) (.int 2))) (.cons (.expr (.meth .append (.var 4) (.cons (.prim .tuple (.cons (.comp false [6] (.call "dot" (.cons (.var 0) (.cons (.var 5) (.cons (.var 6) .nil)))) (.nm 6) (.seq (.var 3)) .none) .nil)) .nil))) .nil)) (.cons (.ret (.tup (.cons (.ix (.var 1) (.int 0)) (.cons (.ix (.var 2) (.int 1)) (.cons (.prim .tuple (.cons (.var 4) .nil)) .nil))))) .nil))))))⟩
def f_scaled : Lg.Fn := ⟨5, 3, (.cons (.expr (.call "need_domain" (.cons (.var 0) .nil))) (.cons (.ret (.tup (.cons (.ix (.var 2) (.int 0)) (.cons (.ix (.var 2) (.int 1)) (.cons (.prim .tuple (.cons (.comp false [4] (.prim .tuple (.cons (.comp false [3] (.call "multiply" (.cons (.var 0) (.cons (.var 1) (.cons (.var 3) .nil)))) (.nm 3) (.seq (.var 4)) .none) .nil)) (.nm 4) (.seq (.ix (.var 2) (.int 2))) .none) .nil)) .nil))))) .nil))⟩
def f_transposed : Lg.Fn := ⟨3, 1, (.cons (.ret (.tup (.cons (.ix (.var 0) (.int 1)) (.cons (.ix (.var 0) (.int 0)) (.cons (.prim .tuple (.cons (.comp false [2] (.prim .tuple (.cons (.comp false [1] (.ix (.var 1) (.var 2)) (.nm 1) (.seq (.ix (.var 0) (.int 2))) .none) .nil)) (.nm 2) (.rng1 (.ix (.var 0) (.int 1))) .none) .nil)) .nil))))) .nil)⟩
def f_may_change : Lg.Fn := ⟨2, 2, (.cons (.ite (.cmp .eq (.ix (.var 0) (.int 0)) (.str "Z")) (.cons (.ret (.call "is_field" (.cons (.var 1) .nil))) .nil) .nil) (.cons (.ret (.or (.and (.cmp .eq (.ix (.var 0) (.int 0)) (.str "Q")) (.cmp .isin (.ix (.var 1) (.int 0)) (.tup (.cons (.str "Z") (.cons (.str "F") .nil))))) (.cmp .eq (.var 1) (.tup (.cons (.str "P") (.cons (.var 0) .nil)))))) .nil))⟩
def f_changed : Lg.Fn := ⟨3, 3, (.cons (.ite (.cmp .eq (.var 0) (.var 1)) (.cons (.ret (.var 2)) .nil) .nil) (.cons (.ite (.and (.cmp .eq (.ix (.var 0) (.int 0)) (.str "Z")) (.call "is_field" (.cons (.var 1) .nil))) (.cons (.ret (.call "from_integer" (.cons (.var 1) (.cons (.var 2) .nil)))) .nil) .nil) (.cons (.ite (.and (.cmp .eq (.ix (.var 0) (.int 0)) (.str "Q")) (.and (.cmp .eq (.ix (.var 1) (.int 0)) (.str "Z")) (.cmp .eq (.ix (.var 2) (.int 1)) (.int 1)))) (.cons (.ret (.ix (.var 2) (.int 0))) .nil) .nil) (.cons (.ite (.and (.cmp .eq (.ix (.var 0) (.int 0)) (.str "Q")) (.and (.cmp .eq (.ix (.var 1) (.int 0)) (.str "F")) (.cmp .ne (.bin .mod (.ix (.var 2) (.int 1)) (.ix (.var 1) (.int 1))) (.int 0)))) (.cons (.ret (.call "quotient" (.cons (.var 1) (.cons (.bin .mod (.ix (.var 2) (.int 0)) (.ix (.var 1) (.int 1))) (.cons (.bin .mod (.ix (.var 2) (.int 1)) (.ix (.var 1) (.int 1))) .nil))))) .nil) .nil) (.cons (.ite (.cmp .eq (.var 1) (.tup (.cons (.str "P") (.cons (.var 0) .nil)))) (.cons (.ret (.call "trimmed" (.cons (.var 0) (.cons (.lst false (.cons (.var 2) .nil)) .nil)))) .nil) .nil) (.cons (.raise "DomainError") .nil))))))⟩
def f_change_0f7aff : Lg.Fn := ⟨5, 3, (.cons (.ite (.or (.not (.call "is_domain" (.cons (.var 0) .nil))) (.or (.not (.call "is_domain" (.cons (.var 1) .nil))) (.and (.cmp .ne (.var 0) (.var 1)) (.not (.call "may_change" (.cons (.var 0) (.cons (.var 1) .nil))))))) (.cons (.raise "DomainError") .nil) .nil) (.cons (.ret (.tup (.cons (.ix (.var 2) (.int 0)) (.cons (.ix (.var 2) (.int 1)) (.cons (.prim .tuple (.cons (.compx false [4] (.prim .tuple (.cons (.compx false [3] (.call "changed" (.cons (.var 0) (.cons (.var 1) (.cons (.var 3) .nil)))) (.nm 3) (.seq (.var 4)) .none) .nil)) (.nm 4) (.seq (.ix (.var 2) (.int 2))) .none) .nil)) .nil))))) .nil))⟩
def f_evaluated : Lg.Fn := ⟨5, 3, (.cons (.expr (.call "need_field" (.cons (.var 0) .nil))) (.cons (.expr (.call "need_square" (.cons (.var 2) .nil))) (.cons (.assign (.nm 3) (.call "zero_matrix" (.cons (.var 0) (.cons (.ix (.var 2) (.int 0)) (.cons (.ix (.var 2) (.int 0)) .nil))))) (.cons (.for (.nm 4) (.seq (.rev (.var 1))) (.cons (.assign (.nm 3) (.call "plus" (.cons (.var 0) (.cons (.call "times" (.cons (.var 0) (.cons (.var 3) (.cons (.var 2) .nil)))) (.cons (.call "scaled" (.cons (.var 0) (.cons (.var 4) (.cons (.call "identity" (.cons (.var 0) (.cons (.ix (.var 2) (.int 0)) .nil))) .nil)))) .nil))))) .nil)) (.cons (.ret (.var 3)) .nil)))))⟩
def f__law_changed : Lg.Fn := ⟨3, 3, (.cons (.ite (.and (.cmp .eq (.ix (.var 0) (.int 0)) (.str "Z")) (.cmp .isin (.ix (.var 1) (.int 0)) (.lst false (.cons (.str "Q") (.cons (.str "F") .nil))))) (.cons (.ret (.call "_law_number" (.cons (.var 1) (.cons (.var 2) .nil)))) .nil) .nil) (.cons (.ite (.and (.cmp .eq (.ix (.var 0) (.int 0)) (.str "Q")) (.and (.cmp .eq (.ix (.var 1) (.int 0)) (.str "Z")) (.cmp .eq (.ix (.var 2) (.int 1)) (.int 1)))) (.cons (.ret (.ix (.var 2) (.int 0))) .nil) .nil) (.cons (.ite (.and (.cmp .eq (.ix (.var 0) (.int 0)) (.str "Q")) (.and (.cmp .eq (.ix (.var 1) (.int 0)) (.str "F")) (.cmp .ne (.bin .mod (.prim .int (.cons (.ix (.var 2) (.int 1)) .nil)) (.ix (.var 1) (.int 1))) (.int 0)))) (.cons (.ret (.call "_law_multiply" (.cons (.var 1) (.cons (.call "_law_number" (.cons (.var 1) (.cons (.ix (.var 2) (.int 0)) .nil))) (.cons (.call "_law_inverse" (.cons (.var 1) (.cons (.call "_law_number" (.cons (.var 1) (.cons (.ix (.var 2) (.int 1)) .nil))) .nil))) .nil))))) .nil) .nil) (.cons (.ite (.and (.cmp .eq (.ix (.var 1) (.int 0)) (.str "P")) (.cmp .eq (.ix (.var 1) (.int 1)) (.var 0))) (.cons (.ret (.call "_law_strip" (.cons (.var 0) (.cons (.lst false (.cons (.var 2) .nil)) .nil)))) .nil) .nil) (.cons (.ret .non) .nil)))))⟩
end Fn
namespace Lp
open Lg
/-! ### what is reached -/
def wp {α : Type} (r : Out α) (Q : α → Store → Prop) (E : String → Store → Prop) : Prop := match r with
  | .ok a st => Q a st
  | .exc c st => E c st
  | .bad => False
def NE : String → Store → Prop := fun _ _ => False
section
variable {α β : Type} {Q Q' : α → Store → Prop} {E E' : String → Store → Prop}
theorem wp_ok {a : α} {st : Store} : wp (.ok a st) Q E = Q a st := rfl
theorem wp_exc {c : String} {st : Store} : wp (.exc c st : Out α) Q E = E c st := rfl
theorem wp_bad : wp (.bad : Out α) Q E = False := rfl
theorem wp_bind {r : Out β} {f : β → Store → Out α} : wp (r.bind f) Q E = wp r (fun a st => wp (f a st) Q E) E := by cases r <;> rfl
theorem wp_lift {env : Env} {r : Out β} {f : β → Store → Out Fl} {Q : Fl → Store → Prop} : wp (lift env r f) Q E = wp r (fun a st => wp (f a st) Q E) (fun c st => Q (.xc c env) st) := by cases r <;> rfl
theorem wp_noexc {r : Out α} : wp (noexc r) Q E = wp r Q NE := by cases r <;> rfl
theorem wp_mono {r : Out α} (h : wp r Q E) (hq : ∀ a st, Q a st → Q' a st) (he : ∀ c st, E c st → E' c st) : wp r Q' E' := by
  cases r with
  | ok a st => exact hq _ _ h
  | exc c st => exact he _ _ h
  | bad => exact h
theorem wp_imp {r : Out α} (h : wp r Q NE) (hq : ∀ a st, Q a st → Q' a st) : wp r Q' E := wp_mono h hq fun _ _ z => z.elim
theorem of_wp {r : Out α} {a : α} {st : Store} (h : wp r (fun x s => x = a ∧ s = st) NE) : r = .ok a st := by
  cases r with
  | ok x s => obtain ⟨h1, h2⟩ := h; rw [h1, h2]
  | exc c s => exact h.elim
  | bad => exact h.elim
theorem ex_wp {r : Out α} (h : wp r Q NE) : ∃ a st, r = .ok a st ∧ Q a st := by
  cases r with
  | ok x s => exact ⟨x, s, rfl, h⟩
  | exc c s => exact h.elim
  | bad => exact h.elim
theorem wp_ite {c : Prop} [Decidable c] {a b : Out α} : wp (if c then a else b) Q E = ((c → wp a Q E) ∧ (¬c → wp b Q E)) := by
  by_cases h : c
  · rw [if_pos h]; simp [h]
  · rw [if_neg h]; simp [h]
theorem conj_bad {c q : Prop} : ((c → q) ∧ (¬c → False)) = (c ∧ q) := by
  by_cases h : c <;> simp [h]
theorem wp_ifbad {c : Prop} [Decidable c] {a : α} {st : Store} : wp (if c then .ok a st else .bad) Q E = (c ∧ Q a st) := by
  by_cases h : c
  · rw [if_pos h]; simp [wp_ok, h]
  · rw [if_neg h]; simp [wp_bad, h]
end
section
variable {C : Cx} {sub : String → String → Option Bool} {env : Env} {st : Store} {Q : Fl → Store → Prop} {Er : String → Store → Prop}
/-- a block: its first statement, then the rest -/
theorem wc {s : S} {ss : Ss} : wp (execs C sub (.cons s ss) env st) Q Er = wp (exec C sub s env st) (fun f st1 => match f with
    | .nx e => wp (execs C sub ss e st1) Q Er
    | .rt d => Q (.rt d) st1
    | .bk e => Q (.bk e) st1
    | .ct e => Q (.ct e) st1
    | .xc c e => Q (.xc c e) st1) Er := by
  simp only [execs, wp_bind]
  cases exec C sub s env st with
  | ok f st1 => cases f <;> rfl
  | exc _ _ => rfl
  | bad => rfl
theorem wjoin {r : Out Fl} {ss : Ss} (M : Env → Store → Prop) (h : wp r (fun f st1 => match f with
    | .nx e => M e st1
    | .rt d => Q (.rt d) st1
    | .bk e => Q (.bk e) st1
    | .ct e => Q (.ct e) st1
    | .xc c e => Q (.xc c e) st1) Er) (k : ∀ e st, M e st → wp (execs C sub ss e st) Q Er) : wp r (fun f st1 => match f with
    | .nx e => wp (execs C sub ss e st1) Q Er
    | .rt d => Q (.rt d) st1
    | .bk e => Q (.bk e) st1
    | .ct e => Q (.ct e) st1
    | .xc c e => Q (.xc c e) st1) Er := by
  refine wp_mono h (fun f st1 q => ?_) fun _ _ z => z
  cases f with
  | nx e => exact k e st1 q
  | _ => exact q
theorem wn : wp (execs C sub .nil env st) Q Er = Q (.nx env) st := rfl
end
/-! ### calls -/
theorem gc_self (st : Store) (d : D) : gc st st d = st := by
  unfold gc
  split
  · exact List.take_length
  · rfl
theorem gc_len {st st1 : Store} (d : D) (h : st1.length = st.length) : gc st st1 d = st1 := by
  unfold gc
  split
  · rw [← h]; exact List.take_length
  · rfl
theorem gc_app (st c : Store) {d : D} (h : noRef d = true) : gc st (st ++ c) d = st := by
  unfold gc
  rw [if_pos]
  · exact List.take_left
  · rw [List.take_left]
    simp [h]
section
variable {P : Pg} {sub : String → String → Option Bool}
theorem wcall {k : Nat} {f : String} {F : Fn} {as : List D} {st : Store} {Q : D → Store → Prop} {E : String → Store → Prop} (hf : P.fn f = some F) (hl : as.length = F.ps)
    (h : wp (execs ⟨P.gl, callF P sub k, P.ci⟩ sub F.body (start F.n as) st) (fun r st1 => match r with
      | .rt d => Q d (gc st st1 d)
      | .nx _ => Q .non (gc st st1 .non)
      | .xc c _ => E c (gc st st1 .non)
      | .bk _ => False
      | .ct _ => False) NE) : wp (callF P sub (k + 1) f as st) Q E := by
  rw [callF, hf]
  simp only [hl, if_true]
  cases e : execs ⟨P.gl, callF P sub k, P.ci⟩ sub F.body (start F.n as) st with
  | ok r st1 =>
    rw [e] at h
    cases r with
    | nx _ => exact h
    | rt d => exact h
    | bk _ => exact h.elim
    | ct _ => exact h.elim
    | xc c _ => exact h
  | exc _ _ => rw [e] at h; exact h.elim
  | bad => rw [e] at h; exact h.elim
end
/-! ### loops -/
section
variable {t : Env → Store → Out Bool} {b : Env → Store → Out Fl} {Q : Fl → Store → Prop} {E : String → Store → Prop}
theorem wwhile (I : Nat → Env → Store → Prop)
    (step : ∀ n env st, I n env st → wp (t env st) (fun c st1 => (c = true → wp (b env st1) (fun f st2 => match f with
      | .nx e => ∃ m, m < n ∧ I m e st2
      | .ct e => ∃ m, m < n ∧ I m e st2
      | .bk e => Q (.nx e) st2
      | .rt d => Q (.rt d) st2
      | .xc c e => Q (.xc c e) st2) E) ∧ (c = false → Q (.nx env) st1)) (fun c st1 => Q (.xc c env) st1)) :
    ∀ n env st, I n env st → wp (whileS t b env st) Q E := by
  intro n
  induction n using Nat.strongRecOn with
  | _ n ih =>
    intro env st hI
    rw [whileS_eq, wp_lift]
    refine wp_mono (step n env st hI) (fun c st1 q => ?_) fun _ _ z => z
    cases c with
    | false => simp only [Bool.false_eq_true, if_false]; exact q.2 rfl
    | true =>
      simp only [if_true, wp_bind]
      refine wp_mono (q.1 rfl) (fun f st2 q2 => ?_) fun _ _ z => z
      cases f with
      | nx e => obtain ⟨m, hm, q3⟩ := q2; exact ih m hm e st2 q3
      | ct e => obtain ⟨m, hm, q3⟩ := q2; exact ih m hm e st2 q3
      | bk e => exact q2
      | rt d => exact q2
      | xc c e => exact q2
theorem wfor {ks : List (Nat × List D)} {set : D → Env → Store → Out Env} {items : List D} (I : Nat → Env → Store → Prop)
    (step : ∀ i x env st, items[i]? = some x → I i env st → stays st ks = true ∧ wp (set x env st) (fun env1 st1 => wp (b env1 st1) (fun f st2 => match f with
      | .nx e => I (i + 1) e st2
      | .ct e => I (i + 1) e st2
      | .bk e => Q (.nx e) st2
      | .rt d => Q (.rt d) st2
      | .xc c e => Q (.xc c e) st2) E) NE)
    (done : ∀ env st, I items.length env st → stays st ks = true ∧ Q (.nx env) st) :
    ∀ env st, I 0 env st → wp (forL ks set b items env st) Q E := by
  have go : ∀ (n i : Nat), n + i = items.length → ∀ env st, I i env st → wp (forL ks set b (items.drop i) env st) Q E := by
    intro n
    induction n with
    | zero =>
      intro i hi env st hI
      have e : i = items.length := by omega
      subst e
      rw [List.drop_length]
      obtain ⟨h1, h2⟩ := done env st hI
      simp only [forL, h1, if_true]
      exact h2
    | succ n ih =>
      intro i hi env st hI
      have hlt : i < items.length := by omega
      rw [List.drop_eq_getElem_cons hlt]
      obtain ⟨h1, h2⟩ := step i _ env st (List.getElem?_eq_getElem hlt) hI
      simp only [forL, h1, if_true, wp_bind, wp_noexc]
      refine wp_mono h2 (fun env1 st1 q1 => wp_mono q1 (fun f st2 q2 => ?_) fun _ _ z => z) fun _ _ z => z.elim
      cases f with
      | nx e => exact ih (i + 1) (by omega) e st2 q2
      | ct e => exact ih (i + 1) (by omega) e st2 q2
      | bk e => exact q2
      | rt d => exact q2
      | xc c e => exact q2
  intro env st hI
  exact go items.length 0 (by omega) env st hI
/-- a comprehension -/
theorem wcomp {ks : List (Nat × List D)} {turn : D → Store → Out (Option D)} {items : List D} {Q : List D → Store → Prop} (I : Nat → List D → Store → Prop)
    (step : ∀ i x acc st, items[i]? = some x → I i acc st → stays st ks = true ∧ wp (turn x st) (fun o st1 => match o with
      | some y => acc.length < sizeLine ∧ I (i + 1) (acc ++ [y]) st1
      | none => I (i + 1) acc st1) NE)
    (done : ∀ acc st, I items.length acc st → stays st ks = true ∧ Q acc st) :
    ∀ acc st, I 0 acc st → wp (compL ks turn items acc st) Q NE := by
  have go : ∀ (n i : Nat), n + i = items.length → ∀ acc st, I i acc st → wp (compL ks turn (items.drop i) acc st) Q NE := by
    intro n
    induction n with
    | zero =>
      intro i hi acc st hI
      have e : i = items.length := by omega
      subst e
      rw [List.drop_length]
      obtain ⟨h1, h2⟩ := done acc st hI
      simp only [compL, h1, if_true]
      exact h2
    | succ n ih =>
      intro i hi acc st hI
      have hlt : i < items.length := by omega
      rw [List.drop_eq_getElem_cons hlt]
      obtain ⟨h1, h2⟩ := step i _ acc st (List.getElem?_eq_getElem hlt) hI
      simp only [compL, h1, if_true, wp_bind]
      refine wp_mono h2 (fun o st1 q1 => ?_) fun _ _ z => z
      cases o with
      | some y => simp only [if_pos q1.1]; exact ih (i + 1) (by omega) _ _ q1.2
      | none => exact ih (i + 1) (by omega) _ _ q1
  intro acc st hI
  exact go items.length 0 (by omega) acc st hI
/-- a comprehension that changes nothing: each turn gives g -/
theorem wcompM {ks : List (Nat × List D)} {turn : D → Store → Out (Option D)} {items : List D} {st : Store} {Q : List D → Store → Prop} (g : D → Option D) (hs : stays st ks = true) (hl : items.length < sizeLine) (ht : ∀ x ∈ items, turn x st = .ok (g x) st) (q : Q (items.filterMap g) st) :
    wp (compL ks turn items [] st) Q NE := by
  refine wcomp (fun i acc s => s = st ∧ acc = (items.take i).filterMap g) (fun i x acc s hx hI => ?_) (fun acc s hI => ?_) [] st ⟨rfl, by simp⟩
  · obtain ⟨rfl, rfl⟩ := hI
    refine ⟨hs, ?_⟩
    rw [ht x (List.mem_of_getElem? hx)]
    have e : (items.take (i + 1)) = items.take i ++ [x] := by rw [List.take_add_one, hx]; rfl
    cases h : g x with
    | some y =>
      simp only [wp_ok]
      refine ⟨?_, trivial, ?_⟩
      · refine Nat.lt_of_le_of_lt (List.length_filterMap_le _ _) ?_
        rw [List.length_take]; omega
      · rw [e, List.filterMap_append]; simp [h]
    | none =>
      simp only [wp_ok]
      refine ⟨trivial, ?_⟩
      rw [e, List.filterMap_append]; simp [h]
  · obtain ⟨rfl, rfl⟩ := hI
    rw [List.take_length]
    exact ⟨hs, q⟩
end
/-- a comprehension of one value for each item -/
theorem wmap {ks : List (Nat × List D)} {turn : D → Store → Out (Option D)} {items : List D} {st : Store} {Q : List D → Store → Prop} (g : D → D) (hs : stays st ks = true) (hl : items.length ≤ sizeLine) (ht : ∀ x ∈ items, wp (turn x st) (fun o s => o = some (g x) ∧ s = st) NE) (q : Q (items.map g) st) :
    wp (compL ks turn items [] st) Q NE := by
  refine wcomp (fun i acc s => s = st ∧ acc = (items.take i).map g) (fun i x acc s hx hI => ?_) (fun acc s hI => ?_) [] st ⟨rfl, by simp⟩
  · obtain ⟨rfl, rfl⟩ := hI
    refine ⟨hs, ?_⟩
    rw [of_wp (ht x (List.mem_of_getElem? hx))]
    have e : (items.take (i + 1)) = items.take i ++ [x] := by rw [List.take_add_one, hx]; rfl
    have hi : i < items.length := (List.getElem?_eq_some_iff.mp hx).1
    simp only [wp_ok]
    refine ⟨?_, trivial, ?_⟩
    · rw [List.length_map, List.length_take]; omega
    · rw [e, List.map_append]; rfl
  · obtain ⟨rfl, rfl⟩ := hI
    rw [List.take_length]
    exact ⟨hs, q⟩
/-! ### sizes of numbers -/
theorem bits_le {x : Int} {n : Nat} (h : x.natAbs < 2 ^ n) : bits x ≤ n := by
  unfold bits
  split
  · omega
  · rename_i hx
    have hx' : x.natAbs ≠ 0 := by omega
    have := (Nat.log2_lt hx').mpr h
    omega
theorem mul_fine {x y : Int} {m n : Nat} (hx : x.natAbs < 2 ^ m) (hy : y.natAbs < 2 ^ n) (h : m + n ≤ bitsLine) : bits x + bits y ≤ bitsLine := by
  have h1 := bits_le hx
  have h2 := bits_le hy
  omega
theorem big_le {m n : Nat} (h : m ≤ n) {x : Nat} (hx : x < 2 ^ m) : x < 2 ^ n := Nat.lt_of_lt_of_le hx (Nat.pow_le_pow_right (by decide) h)
theorem mul_big {x y : Int} (hx : x.natAbs < 2 ^ 4000) (hy : y.natAbs < 2 ^ 4000) : bits x + bits y ≤ bitsLine := mul_fine hx hy (by decide)
theorem mul_ok {x y : Int} (hx : x.natAbs < 2 ^ 250) (hy : y.natAbs < 2 ^ 250) : bits x + bits y ≤ bitsLine := mul_fine hx hy (by decide)
theorem limbs_le {x : Int} {n : Nat} (h : x.natAbs < 2 ^ n) (hn : 0 < n) : limbs x ≤ (n - 1) / 30 + 1 := by
  unfold limbs
  split
  · omega
  · rename_i hx
    have hx' : x.natAbs ≠ 0 := by omega
    have := (Nat.log2_lt hx').mpr h
    have : x.natAbs.log2 / 30 ≤ (n - 1) / 30 := Nat.div_le_div_right (by omega)
    omega
theorem div_big {x y : Int} (hy : y.natAbs < 2 ^ 9000) : divOk x y = true := by
  have := limbs_le hy (by decide)
  unfold divOk
  simp only [Bool.not_eq_true', Bool.and_eq_false_iff, decide_eq_false_iff_not]
  left
  omega
theorem div_ok {x y : Int} (hy : y.natAbs < 2 ^ 250) : divOk x y = true := div_big (big_le (by decide) hy)
/-! ### how expressions go, for simp -/
section
variable {C : Cx} {env : Env} {st : Store}
theorem e_non : ev C .non env st = .ok .non st := rfl
theorem e_bl {b : Bool} : ev C (.bl b) env st = .ok (.bl b) st := rfl
theorem e_int {i : Int} : ev C (.int i) env st = .ok (.int i) st := rfl
theorem e_str {s : String} : ev C (.str s) env st = .ok (.str s) st := rfl
theorem e_var {i : Nat} : ev C (.var i) env st = match env[i]? with
    | some (some d) => .ok d st
    | _ => .bad := rfl
theorem e_con {d : D} : ev C (.con d) env st = .ok d st := rfl
theorem e_bin {op : Bop} {a b : E} : ev C (.bin op a b) env st = (ev C a env st).bind fun x st1 => (ev C b env st1).bind fun y st2 => bop op x y st2 := rfl
theorem e_neg {a : E} : ev C (.neg a) env st = (ev C a env st).bind fun x st1 => match x with
    | .int i => .ok (.int (-i)) st1
    | _ => .bad := rfl
theorem e_not {a : E} : ev C (.not a) env st = (ev C a env st).bind fun x st1 => match truth st1 x with
    | some b => .ok (.bl (!b)) st1
    | none => .bad := rfl
theorem e_cmp {op : Cop} {a b : E} : ev C (.cmp op a b) env st = (ev C a env st).bind fun x st1 => (ev C b env st1).bind fun y st2 => cop op x y st2 := rfl
theorem e_and {a b : E} : ev C (.and a b) env st = (ev C a env st).bind fun x st1 => match truth st1 x with
    | some t => if t = true then ev C b env st1 else .ok x st1
    | none => .bad := by
  simp only [ev]
  congr 1
  funext x st1
  cases truth st1 x with
  | none => rfl
  | some t => cases t <;> rfl
theorem e_or {a b : E} : ev C (.or a b) env st = (ev C a env st).bind fun x st1 => match truth st1 x with
    | some t => if t = true then .ok x st1 else ev C b env st1
    | none => .bad := by
  simp only [ev]
  congr 1
  funext x st1
  cases truth st1 x with
  | none => rfl
  | some t => cases t <;> rfl
theorem e_ite {c a b : E} : ev C (.ite c a b) env st = (ev C c env st).bind fun x st1 => match truth st1 x with
    | some t => if t = true then ev C a env st1 else ev C b env st1
    | none => .bad := by
  simp only [ev]
  congr 1
  funext x st1
  cases truth st1 x with
  | none => rfl
  | some t => cases t <;> rfl
theorem e_call {f : String} {as : Es} : ev C (.call f as) env st = (evs C as env st).bind fun xs st1 => C.call f xs st1 := rfl
theorem e_prim {p : Prim} {as : Es} : ev C (.prim p as) env st = (evs C as env st).bind fun xs st1 => prim p xs st1 := rfl
theorem e_isi {t : Ty} {a : E} : ev C (.isi t a) env st = (ev C a env st).bind fun x st1 => if noTy st1 x then .bad else .ok (.bl (isTy st1 t x)) st1 := rfl
theorem fn_int {i : Int} : noTy st (.int i) = false := rfl
theorem fn_bl {b : Bool} : noTy st (.bl b) = false := rfl
theorem fn_non : noTy st .non = false := rfl
theorem fn_str {s : String} : noTy st (.str s) = false := rfl
theorem fn_tup {xs : List D} : noTy st (.tup xs) = false := rfl
theorem fn_scr {xs : List D} : noTy st (.scr xs) = false := rfl
theorem fn_fro {xs : List D} : noTy st (.fro xs) = false := rfl
theorem fn_ref {l : Nat} : noTy st (.ref l) = (match st[l]? with
    | some (.ins _ _ _) => true
    | _ => false) := rfl
theorem e_ladd {a b : E} : ev C (.ladd a b) env st = (ev C a env st).bind fun x st1 => (ev C b env st1).bind fun y st2 => madd x y st2 := rfl
theorem madd_ss {xs ys : List D} : madd (.scr xs) (.scr ys) st = if xs.length + ys.length ≤ sizeLine then .ok (.ref st.length) (st ++ [.lst (xs ++ ys)]) else .bad := rfl
theorem e_rev {a : E} : ev C (.rev a) env st = (ev C a env st).bind fun x st1 => revD x st1 := rfl
theorem rev_tup {xs : List D} : revD (.tup xs) st = .ok (.tup xs.reverse) st := rfl
theorem rev_scr {xs : List D} : revD (.scr xs) st = .ok (.scr xs.reverse) st := rfl
theorem e_fnv {x : String} : ev C (.fnv x) env st = .ok (.fn x) st := rfl
theorem e_ix {a i : E} : ev C (.ix a i) env st = (ev C a env st).bind fun x st1 => (ev C i env st1).bind fun y st2 => index x y st2 := rfl
theorem e_slice {a : E} {lo hi : Eo} : ev C (.slice a lo hi) env st = (ev C a env st).bind fun x st1 => (evo C lo env st1).bind fun l st2 => (evo C hi env st2).bind fun h st3 => sliced x l h st3 := rfl
theorem e_tup {as : Es} : ev C (.tup as) env st = (evs C as env st).bind fun xs st1 => if xs.length ≤ sizeLine then .ok (.tup xs) st1 else .bad := rfl
theorem e_lst {m : Bool} {as : Es} : ev C (.lst m as) env st = (evs C as env st).bind fun xs st1 => if xs.length ≤ sizeLine then newList m xs st1 else .bad := rfl
theorem e_comp {m : Bool} {own : List Nat} {elt : E} {tg : Tg} {it : It} {c : Eo} : ev C (.comp m own elt tg it c) env st = (evIt C it env st).bind fun w st1 =>
      (noexc (compL w.keep (fun x st2 => (asg C tg x (wipe env own) st2).bind fun env3 st3 => (evc C c env3 st3).bind fun b st4 =>
        if b then (ev C elt env3 st4).bind fun y st5 => .ok (some y) st5 else .ok none st4) w.items [] st1)).bind fun ys st2 => newList m ys st2 := rfl
theorem e_lrange {m : Bool} {lo hi : E} : ev C (.lrange m lo hi) env st = (ev C lo env st).bind fun x st1 => (ev C hi env st1).bind fun y st2 => match x, y with
    | .int i, .int j => if rngOk i j then newList m (rng i (j - i).toNat) st2 else .bad
    | _, _ => .bad := rfl
theorem e_lrep {a b : E} : ev C (.lrep a b) env st = (ev C a env st).bind fun x st1 => (ev C b env st1).bind fun y st2 => mrep x y st2 := rfl
theorem m_rep {xs : List D} {j : Int} : mrep (.scr xs) (.int j) st = if chk (0 ≤ j ∧ xs.length * j.toNat ≤ sizeLine ∧ j < 2 ^ 62) = true then .ok (.ref st.length) (st ++ [.lst (List.replicate j.toNat xs).flatten]) else .bad := rfl
theorem e_meth {m : Meth} {o : E} {as : Es} : ev C (.meth m o as) env st = (ev C o env st).bind fun x st1 => guardB (methOk st1 m x) ((evs C as env st1).bind fun xs st2 => meth m x xs st2) := rfl
theorem e_chain3 {p q r : Cop} {a b c d : E} : ev C (.chain3 p q r a b c d) env st = (ev C a env st).bind fun x st1 => (ev C b env st1).bind fun y st2 => (cop p x y st2).bind fun t st3 => match t with
    | .bl t => if t = true then (ev C c env st3).bind fun z st4 => (cop q y z st4).bind fun t2 st5 => match t2 with
      | .bl t2 => if t2 = true then (ev C d env st5).bind fun w st6 => cop r z w st6 else .ok (.bl t2) st5
      | _ => .bad else .ok (.bl t) st3
    | _ => .bad := by
  simp only [ev]
  congr 1
  funext x st1
  congr 1
  funext y st2
  congr 1
  funext t st3
  cases t with
  | bl t =>
    cases t with
    | false => rfl
    | true =>
      simp only [if_true]
      congr 1
      funext z st4
      congr 1
      funext t st5
      cases t with
      | bl t => cases t <;> rfl
      | _ => rfl
  | _ => rfl
theorem e_chain {p q : Cop} {a b c : E} : ev C (.chain p q a b c) env st = (ev C a env st).bind fun x st1 => (ev C b env st1).bind fun y st2 => (cop p x y st2).bind fun r st3 => match r with
    | .bl t => if t = true then (ev C c env st3).bind fun z st4 => cop q y z st4 else .ok r st3
    | _ => .bad := by
  simp only [ev]
  congr 1
  funext x st1
  congr 1
  funext y st2
  congr 1
  funext r st3
  cases r with
  | bl t => cases t <;> rfl
  | _ => rfl
/-! rd, deq -/
theorem rd_int {n : Nat} {i : Int} : rd st n (.int i) = some (.int i) := by cases n <;> rfl
theorem rd_non {n : Nat} : rd st n .non = some .non := by cases n <;> rfl
theorem rd_bl {n : Nat} {b : Bool} : rd st n (.bl b) = some (.bl b) := by cases n <;> rfl
theorem rd_str {n : Nat} {s : String} : rd st n (.str s) = some (.str s) := by cases n <;> rfl
theorem dq_int {i j : Int} : deq (.int i) (.int j) = (i == j) := rfl
theorem dq_non : deq .non .non = true := rfl
theorem dq_str {i j : String} : deq (.str i) (.str j) = (i == j) := rfl
/-! operations, by what stands there -/
variable {i j : Int} {xs ys : List D} {s t : String} {x y : D}
theorem b_add : bop .add (.int i) (.int j) st = .ok (.int (i + j)) st := rfl
theorem b_addT : bop .add (.tup xs) (.tup ys) st = if xs.length + ys.length ≤ sizeLine then .ok (.tup (xs ++ ys)) st else .bad := rfl
theorem b_addL : bop .add (.scr xs) (.scr ys) st = if xs.length + ys.length ≤ sizeLine then .ok (.scr (xs ++ ys)) st else .bad := rfl
theorem b_sub : bop .sub (.int i) (.int j) st = .ok (.int (i - j)) st := rfl
theorem b_mul : bop .mul (.int i) (.int j) st = if bits i + bits j ≤ bitsLine then .ok (.int (i * j)) st else .bad := rfl
theorem b_rep : bop .mul (.scr xs) (.int j) st = if chk (0 ≤ j ∧ xs.length * j.toNat ≤ sizeLine ∧ j < 2 ^ 62) = true then .ok (.scr (List.replicate j.toNat xs).flatten) st else .bad := rfl
theorem b_fdiv : bop .fdiv (.int i) (.int j) st = if j ≠ 0 ∧ divOk i j = true then .ok (.int (i.fdiv j)) st else .bad := rfl
theorem b_mod : bop .mod (.int i) (.int j) st = if j ≠ 0 then .ok (.int (i.fmod j)) st else .bad := rfl
theorem b_shl : bop .shl (.int i) (.int j) st = if chk (0 ≤ j ∧ j ≤ 1000000 ∧ i.natAbs < 2 ^ 64) = true then .ok (.int (i * 2 ^ j.toNat)) st else .bad := rfl
theorem i_add : iop .add (.int i) (.int j) st = .ok (.int (i + j)) st := rfl
theorem i_sub : iop .sub (.int i) (.int j) st = .ok (.int (i - j)) st := rfl
theorem i_mul : iop .mul (.int i) (.int j) st = if bits i + bits j ≤ bitsLine then .ok (.int (i * j)) st else .bad := rfl
theorem i_fdiv : iop .fdiv (.int i) (.int j) st = if j ≠ 0 ∧ divOk i j = true then .ok (.int (i.fdiv j)) st else .bad := rfl
theorem i_mod : iop .mod (.int i) (.int j) st = if j ≠ 0 then .ok (.int (i.fmod j)) st else .bad := rfl
theorem c_eq : cop .eq x y st = match rd st 40 x, rd st 40 y with
    | some a, some b => .ok (.bl (deq a b)) st
    | _, _ => .bad := rfl
theorem c_ne : cop .ne x y st = match rd st 40 x, rd st 40 y with
    | some a, some b => .ok (.bl (!deq a b)) st
    | _, _ => .bad := rfl
theorem c_lt : cop .lt (.int i) (.int j) st = .ok (.bl (decide (i < j))) st := rfl
theorem c_le : cop .le (.int i) (.int j) st = .ok (.bl (decide (i ≤ j))) st := rfl
theorem c_gt : cop .gt (.int i) (.int j) st = .ok (.bl (decide (j < i))) st := rfl
theorem c_ge : cop .ge (.int i) (.int j) st = .ok (.bl (decide (j ≤ i))) st := rfl
theorem c_is : cop .is x .non st = .ok (.bl (isNon x)) st := rfl
theorem c_isNot : cop .isNot x .non st = .ok (.bl (!isNon x)) st := rfl
theorem p_len : prim .len [x] st = match seqOf st x with
    | some xs => .ok (.int xs.length) st
    | none => .bad := rfl
theorem p_abs : prim .abs [.int i] st = .ok (.int (if i < 0 then -i else i)) st := rfl
theorem p_min2 : prim .min2 [.int i, .int j] st = .ok (.int (if j < i then j else i)) st := rfl
theorem p_max2 : prim .max2 [.int i, .int j] st = .ok (.int (if j > i then j else i)) st := rfl
theorem p_int : prim .int [.int i] st = .ok (.int i) st := rfl
theorem p_intb {b : Bool} : prim .int [.bl b] st = .ok (.int (if b then 1 else 0)) st := rfl
theorem p_tuple : prim .tuple [x] st = match seqOf st x with
    | some xs => .ok (.tup xs) st
    | none => .bad := rfl
theorem p_list {m : Bool} : prim (.list m) [x] st = match seqOf st x with
    | some xs => newList m xs st
    | none => .bad := rfl
theorem p_sum : prim .sum [x] st = match (listOf st x).bind intsD with
    | some ns => .ok (.int ns.sum) st
    | none => .bad := rfl
theorem p_any : prim .any [x] st = match (listOf st x).bind bools with
    | some bs => .ok (.bl (bs.any id)) st
    | none => .bad := rfl
theorem p_all : prim .all [x] st = match (listOf st x).bind bools with
    | some bs => .ok (.bl (bs.all id)) st
    | none => .bad := rfl
theorem q_tup : seqOf st (.tup xs) = some xs := rfl
theorem q_scr : seqOf st (.scr xs) = some xs := rfl
theorem q_fro : seqOf st (.fro xs) = some xs := rfl
theorem l_scr : listOf st (.scr xs) = some xs := rfl
theorem l_fro : listOf st (.fro xs) = some xs := rfl
theorem x_int : index x (.int i) st = match (seqOf st x).bind (atI · i) with
    | some d => .ok d st
    | none => .bad := rfl
theorem t_bl {b : Bool} : truth st (.bl b) = some b := rfl
theorem t_int : truth st (.int i) = some (i != 0) := rfl
theorem t_non : truth st .non = some false := rfl
theorem t_tup : truth st (.tup xs) = some (!xs.isEmpty) := rfl
theorem t_scr : truth st (.scr xs) = some (!xs.isEmpty) := rfl
theorem ty_int : isTy st .int (.int i) = true := rfl
theorem ty_intb {b : Bool} : isTy st .int (.bl b) = true := rfl
theorem ty_bool {b : Bool} : isTy st .bool (.bl b) = true := rfl
theorem ty_booli : isTy st .bool (.int i) = false := rfl
theorem ty_tup : isTy st .tuple (.tup xs) = true := rfl
theorem ty_tupi : isTy st .tuple (.int i) = false := rfl
theorem ty_tupn : isTy st .tuple .non = false := rfl
theorem ty_tups : isTy st .tuple (.str s) = false := rfl
theorem ty_str : isTy st .str (.str s) = true := rfl
theorem gd_t {α : Type} {r : Out α} : guardB true r = r := rfl
theorem mo_ref {l : Nat} : methOk st .append (.ref l) = (match st[l]? with
    | some (.lst _) => true
    | _ => false) := rfl
theorem mo_index {l : Nat} : methOk st .index (.ref l) = (match st[l]? with
    | some (.lst _) => true
    | _ => false) := rfl
theorem mo_bits : methOk st .bitLength (.int i) = true := rfl
theorem m_bits : meth .bitLength (.int i) [] st = .ok (.int (bits i)) st := rfl
theorem at_nat (n : Nat) : atI xs (n : Int) = xs[n]? := by
  unfold atI ixN
  by_cases h : n < xs.length
  · rw [if_pos (by omega), if_pos (by omega)]; simp
  · rw [if_pos (by omega), if_neg (by omega), List.getElem?_eq_none (by omega)]; rfl
theorem at_0 : atI xs 0 = xs[0]? := at_nat 0
theorem at_1 : atI xs 1 = xs[1]? := at_nat 1
theorem at_2 : atI xs 2 = xs[2]? := at_nat 2
theorem at_3 : atI xs 3 = xs[3]? := at_nat 3
theorem at_last : atI xs (-1) = xs.getLast? := by
  unfold atI ixN
  cases xs with
  | nil => rfl
  | cons x r =>
    rw [if_neg (by omega), if_pos (by simp only [List.length_cons]; omega), List.getLast?_eq_getElem?]
    simp only [List.length_cons, Option.bind_some]
    congr 1
    omega
theorem at_get {i : Int} (h0 : 0 ≤ i) : atI xs i = xs[i.toNat]? := by
  have := at_nat (xs := xs) i.toNat
  rw [show ((i.toNat : Nat) : Int) = i by omega] at this
  exact this
theorem ix_40 : ixN 4 0 = some 0 := rfl
theorem ix_41 : ixN 4 1 = some 1 := rfl
theorem ix_42 : ixN 4 2 = some 2 := rfl
theorem ix_43 : ixN 4 3 = some 3 := rfl
theorem pw_9 : bop .pow (.int 10) (.int 9) st = .ok (.int 1000000000) st := if_pos (chk_iff.mpr ⟨by decide, by decide, by decide⟩)
theorem pw_12 : bop .pow (.int 10) (.int 12) st = .ok (.int 1000000000000) st := if_pos (chk_iff.mpr ⟨by decide, by decide, by decide⟩)
theorem pw_15 : bop .pow (.int 10) (.int 15) st = .ok (.int 1000000000000000) st := if_pos (chk_iff.mpr ⟨by decide, by decide, by decide⟩)
theorem pw_18 : bop .pow (.int 10) (.int 18) st = .ok (.int 1000000000000000000) st := if_pos (chk_iff.mpr ⟨by decide, by decide, by decide⟩)
theorem pw_19 : bop .pow (.int 10) (.int 19) st = .ok (.int 10000000000000000000) st := if_pos (chk_iff.mpr ⟨by decide, by decide, by decide⟩)
theorem pw_20 : bop .pow (.int 10) (.int 20) st = .ok (.int 100000000000000000000) st := if_pos (chk_iff.mpr ⟨by decide, by decide, by decide⟩)
theorem pw_43 : bop .pow (.int 10) (.int 43) st = .ok (.int 10000000000000000000000000000000000000000000) st := if_pos (chk_iff.mpr ⟨by decide, by decide, by decide⟩)
theorem pw_45 : bop .pow (.int 10) (.int 45) st = .ok (.int 1000000000000000000000000000000000000000000000) st := if_pos (chk_iff.mpr ⟨by decide, by decide, by decide⟩)
theorem sl_fro {lo hi : Option Int} : sliced (.fro xs) lo hi st = .ok (.scr (cut xs lo hi)) st := rfl
theorem sl_scr {lo hi : Option Int} : sliced (.scr xs) lo hi st = .ok (.scr (cut xs lo hi)) st := rfl
theorem sl_tup {lo hi : Option Int} : sliced (.tup xs) lo hi st = .ok (.tup (cut xs lo hi)) st := rfl
theorem nl_t : newList true xs st = .ok (.ref st.length) (st ++ [.lst xs]) := rfl
theorem nl_f : newList false xs st = .ok (.scr xs) st := rfl
theorem k_tup {zs : List D} : keepOf (.tup xs) zs = [] := rfl
theorem k_scr {zs : List D} : keepOf (.scr xs) zs = [] := rfl
theorem k_fro {zs : List D} : keepOf (.fro xs) zs = [] := rfl
theorem k_ref {l : Nat} {zs : List D} : keepOf (.ref l) zs = [(l, zs)] := rfl
theorem cut_to (n : Nat) : cut xs none (some (n : Int)) = xs.take n := by
  unfold cut sIx
  simp only [List.drop_zero, Nat.sub_zero]
  rw [if_neg (by omega), Int.toNat_natCast]
  rw [List.take_eq_take_iff]
  omega
end
theorem rng_fine {lo hi : Int} (h1 : -1000000 ≤ lo) (h2 : lo ≤ 1000000) (h3 : -1000000 ≤ hi) (h4 : hi ≤ 1000000) : rngOk lo hi = true := by
  unfold rngOk
  rw [chk_iff]
  omega
theorem rng_len : ∀ (n : Nat) (lo : Int), (rng lo n).length = n
  | 0, _ => rfl
  | n + 1, lo => by simp [rng, rng_len n]
theorem deqs_refl : ∀ xs : List D, (∀ x ∈ xs, deq x x = true) → deqs xs xs = true
  | [], _ => rfl
  | x :: r, h => by simp [deqs, h x List.mem_cons_self, deqs_refl r fun y hy => h y (List.mem_cons_of_mem _ hy)]
section
variable {st : Store} {xs : List D} {x v : D} {i : Int} {l : Nat}
theorem q_ref : seqOf st (.ref l) = match st[l]? with
    | some (.lst xs) => some xs
    | _ => none := rfl
theorem l_ref : listOf st (.ref l) = match st[l]? with
    | some (.lst xs) => some xs
    | _ => none := rfl
theorem s_ref : setIx (.ref l) (.int i) v st = match st[l]? with
    | some (.lst xs) => match ixN xs.length i with
      | some j => .ok () (st.set l (.lst (xs.set j v)))
      | none => .bad
    | _ => .bad := rfl
theorem m_app : meth .append (.ref l) [x] st = match st[l]? with
    | some (.lst xs) => if xs.length < sizeLine then .ok .non (st.set l (.lst (xs ++ [x]))) else .bad
    | _ => .bad := rfl
theorem bools_map (bs : List Bool) : bools (bs.map D.bl) = some bs := by
  induction bs with
  | nil => rfl
  | cons b r ih => simp [bools, ih]
theorem ix_nat {n j : Nat} (h : j < n) : ixN n (j : Int) = some j := by
  unfold ixN
  rw [if_pos (by omega), if_pos (by omega)]; simp
end
theorem lit_0 : ((0 : Nat) : Int) = 0 := rfl
theorem lit_1 : ((1 : Nat) : Int) = 1 := rfl
theorem lit_2 : ((2 : Nat) : Int) = 2 := rfl
theorem lit_3 : ((3 : Nat) : Int) = 3 := rfl
theorem lit_4 : ((4 : Nat) : Int) = 4 := rfl
theorem lit_5 : ((5 : Nat) : Int) = 5 := rfl
theorem lit_6 : ((6 : Nat) : Int) = 6 := rfl
section
variable {st : Store} {xs : List D} {i : Int} {s : String} {l : Nat} {b : Bool}
theorem ty_stri : isTy st .str (.int i) = false := rfl
theorem ty_strn : isTy st .str .non = false := rfl
theorem ty_strt : isTy st .str (.tup xs) = false := rfl
theorem ty_tupb : isTy st .tuple (.bl b) = false := rfl
theorem t_ref : truth st (.ref l) = (listOf st (.ref l)).map fun xs => !xs.isEmpty := rfl
theorem n_non : isNon .non = true := rfl
theorem n_int : isNon (.int i) = false := rfl
theorem n_tup : isNon (.tup xs) = false := rfl
theorem n_str : isNon (.str s) = false := rfl
end
end Lp
namespace Lp
open Lg
local macro_rules
  | `(tactic| bv_omega) => `(tactic| simp only [exec, evs, evo, evc, evIt, asg, asgs, evt, e_non, e_bl, e_int, e_str, e_var, e_bin, e_neg, e_not, e_cmp, e_and, e_or, e_ite, e_call, e_prim, e_isi, e_ix, e_slice, e_tup, e_lst, e_comp, e_lrange, e_meth, e_chain,
      wn, wp_bind, wp_lift, wp_noexc, wp_ok, wp_exc, wp_bad, bind_ok, lift_ok, wp_ite, conj_bad, b_add, b_addT, b_addL, b_sub, b_mul, b_rep, b_fdiv, b_mod, pw_9, pw_12, pw_15, pw_18, pw_19, pw_20, pw_43, pw_45, b_shl, i_add, i_sub, i_mul, i_fdiv, i_mod, c_eq, c_ne, c_lt, c_le, c_gt, c_ge, c_is, c_isNot, p_len, p_abs, p_min2, p_max2, p_int, p_intb, p_tuple, p_list, p_sum, p_any, p_all,
      q_tup, q_scr, q_fro, l_scr, l_fro, q_ref, l_ref, x_int, t_bl, t_int, t_non, t_tup, t_scr, ty_int, ty_intb, ty_bool, ty_booli, ty_tup, ty_tupi, ty_tupn, ty_tups, ty_str, sl_fro, sl_scr, sl_tup, nl_t, nl_f, k_tup, k_scr, k_fro, k_ref, wipe, s_ref, m_app, ix_40, ix_41, ix_42, ix_43, mo_ref, mo_bits, m_bits, at_0, at_1, at_2, at_3, at_last, Option.bind_some, Option.map_some, lit_0, lit_1, lit_2, lit_3, lit_4, lit_5, lit_6, implies_true, Int.zero_add, Int.toNat_natCast, at_nat, List.getElem?_map, rd_int, rd_non, rd_bl, rd_str, dq_int, dq_non, dq_str, n_non, n_int, n_tup, n_str, ty_stri, ty_strn, ty_strt, ty_tupb, t_ref, start,
      List.getElem?_cons_zero, List.getElem?_cons_succ, List.set_cons_zero, List.set_cons_succ, List.map_cons, List.map_nil, List.length_cons, List.length_nil, List.replicate, List.cons_append, List.nil_append, Nat.reduceAdd, Nat.reduceSub,
      decide_eq_true_eq, decide_eq_false_iff_not, beq_iff_eq, beq_eq_false_iff_ne, Bool.not_eq_true', Bool.not_eq_false', Bool.not_eq_eq_eq_not, bne_iff_ne, Bool.or_false, Bool.or_true, Bool.false_or, Bool.true_or, Bool.and_false, Bool.and_true, Bool.false_and, Bool.true_and, not_false_eq_true, not_true_eq_false, Bool.not_true, Bool.not_false, true_and, and_true, ne_eq, forall_const, if_true, if_false, true_implies, false_implies, reduceCtorEq, Bool.false_eq_true, Bool.true_eq_false])
/-! ### numbers -/
theorem gcd_step {x y : Int} (hx : 0 ≤ x) (hy : 0 ≤ y) : Int.gcd y (x.fmod y) = Int.gcd x y := by
  obtain ⟨n, rfl⟩ := Int.eq_ofNat_of_zero_le hx
  obtain ⟨m, rfl⟩ := Int.eq_ofNat_of_zero_le hy
  rw [Int.fmod_eq_emod_of_nonneg _ hy]
  show Nat.gcd m _ = Nat.gcd n m
  rw [show ((n : Int) % (m : Int)).natAbs = n % m from by rw [← Int.natCast_emod]; rfl, Nat.gcd_comm n m, Nat.gcd_rec m n, Nat.gcd_comm]
theorem fmod_pos {x y : Int} (hy : 0 < y) : 0 ≤ x.fmod y ∧ x.fmod y < y := by
  rw [Int.fmod_eq_emod_of_nonneg _ (by omega)]
  exact ⟨Int.emod_nonneg _ (by omega), Int.emod_lt_of_pos _ hy⟩
theorem abs_if (a : Int) : (if a < 0 then -a else a) = (a.natAbs : Int) := by
  split <;> omega
section
variable {P : Pg} {sub : String → String → Option Bool} {k : Nat} {st : Store}
theorem divisor_ok (h : P.fn "divisor" = some Fn.f_divisor) (a b : Int) : callF P sub (k + 1) "divisor" [.int a, .int b] st = .ok (.int (Int.gcd a b)) st := by
  apply of_wp
  refine wcall h rfl ?_
  dsimp only [Fn.f_divisor]
  rw [wc]; bv_omega
  rw [wc]; bv_omega
  rw [abs_if, abs_if]
  rw [wc]; simp only [exec]
  refine wwhile (fun n env s => ∃ x y : Int, 0 ≤ x ∧ 0 ≤ y ∧ y.toNat = n ∧ Int.gcd x y = Int.gcd a b ∧ env = [some (.int x), some (.int y)] ∧ s = st) ?_ _ _ _ ⟨_, _, ?_, ?_, rfl, ?_, rfl, rfl⟩
  · rintro n env s ⟨x, y, hx, hy, hn, hg, rfl, rfl⟩
    bv_omega
    refine ⟨fun h0 => ?_, fun h0 => ?_⟩
    · rw [wc]; bv_omega
      have hf := fmod_pos (x := x) (y := y) (by omega)
      refine ⟨h0, (x.fmod y).toNat, by omega, y, x.fmod y, by omega, by omega, rfl, ?_, rfl⟩
      rw [gcd_step hx hy, hg]
    · subst h0
      rw [wc]; bv_omega
      refine ⟨?_, gc_self _ _⟩
      rw [← hg, Int.gcd_zero_right]
      congr 1; omega
  · omega
  · omega
  · simp [Int.gcd]
theorem law_common_ok (h : P.fn "_law_common" = some Fn.f__law_common) (a b : Int) : callF P sub (k + 1) "_law_common" [.int a, .int b] st = .ok (.int (Int.gcd a b)) st := by
  apply of_wp
  refine wcall h rfl ?_
  dsimp only [Fn.f__law_common]
  rw [wc]; bv_omega
  rw [wc]; bv_omega
  rw [abs_if, abs_if]
  rw [wc]; simp only [exec]
  refine wwhile (fun n env s => ∃ (x y : Int) (z : Option D), 0 ≤ x ∧ 0 ≤ y ∧ y.toNat = n ∧ Int.gcd x y = Int.gcd a b ∧ env = [some (.int x), some (.int y), z] ∧ s = st) ?_ _ _ _ ⟨_, _, _, ?_, ?_, rfl, ?_, rfl, rfl⟩
  · rintro n env s ⟨x, y, z, hx, hy, hn, hg, rfl, rfl⟩
    bv_omega
    refine ⟨fun h0 => ?_, fun h0 => ?_⟩
    · rw [wc]; bv_omega
      refine ⟨h0, ?_⟩
      rw [wc]; bv_omega
      rw [wc]; bv_omega
      have hf := fmod_pos (x := x) (y := y) (by omega)
      refine ⟨(x.fmod y).toNat, by omega, y, x.fmod y, _, by omega, by omega, rfl, ?_, rfl⟩
      rw [gcd_step hx hy, hg]
    · subst h0
      rw [wc]; bv_omega
      refine ⟨?_, gc_self _ _⟩
      rw [← hg, Int.gcd_zero_right]
      congr 1; omega
  · omega
  · omega
  · simp [Int.gcd]
/-- a fraction in lowest terms -/
def frac (n d : Int) : Int × Int := if d < 0 then (n.fdiv (-(Int.gcd n d : Int)), d.fdiv (-(Int.gcd n d : Int))) else (n.fdiv (Int.gcd n d), d.fdiv (Int.gcd n d))
theorem gcd_small {n d : Int} (hd : d ≠ 0) (h : d.natAbs < 2 ^ 9000) : ((Int.gcd n d : Nat) : Int).natAbs < 2 ^ 9000 ∧ 0 < Int.gcd n d := by
  have h1 : 0 < Int.gcd n d := Int.gcd_pos_of_ne_zero_right _ hd
  have h2 : Int.gcd n d ≤ d.natAbs := Nat.le_of_dvd (by omega) (Int.gcd_dvd_natAbs_right _ _)
  refine ⟨?_, h1⟩
  rw [Int.natAbs_natCast]
  exact Nat.lt_of_le_of_lt h2 h
theorem fraction_ok (h : P.fn "fraction" = some Fn.f_fraction) (hd : P.fn "divisor" = some Fn.f_divisor) (n d : Int) (h0 : d ≠ 0) (hs : d.natAbs < 2 ^ 9000) : callF P sub (k + 2) "fraction" [.int n, .int d] st = .ok (.tup [.int (frac n d).1, .int (frac n d).2]) st := by
  obtain ⟨g1, g2⟩ := gcd_small (n := n) h0 hs
  apply of_wp
  refine wcall h rfl ?_
  dsimp only [Fn.f_fraction]
  rw [wc]; bv_omega
  rw [divisor_ok hd, wp_ok]
  rw [wc]; bv_omega
  refine ⟨fun hn => ?_, fun hn => ?_⟩
  · rw [wc]; bv_omega
    rw [wc]; bv_omega
    refine ⟨⟨by omega, div_big (by rw [Int.natAbs_neg]; exact g1)⟩, ⟨by omega, div_big (by rw [Int.natAbs_neg]; exact g1)⟩, by decide, ?_, gc_self _ _⟩
    simp only [frac, if_pos hn]
  · rw [wc]; bv_omega
    refine ⟨⟨by omega, div_big g1⟩, ⟨by omega, div_big g1⟩, by decide, ?_, gc_self _ _⟩
    simp only [frac, if_neg hn]
theorem law_fraction_ok (h : P.fn "_law_fraction" = some Fn.f__law_fraction) (hd : P.fn "_law_common" = some Fn.f__law_common) (n d : Int) (h0 : d ≠ 0) (hs : d.natAbs < 2 ^ 9000) : callF P sub (k + 2) "_law_fraction" [.int n, .int d] st = .ok (.tup [.int (frac n d).1, .int (frac n d).2]) st := by
  obtain ⟨g1, g2⟩ := gcd_small (n := n) h0 hs
  apply of_wp
  refine wcall h rfl ?_
  dsimp only [Fn.f__law_fraction]
  rw [wc]; bv_omega
  rw [law_common_ok hd, wp_ok]
  rw [wc]; bv_omega
  refine ⟨fun hn => ?_, fun hn => ?_⟩
  · rw [wc]; bv_omega
    rw [wc]; bv_omega
    rw [show (0 : Int) - (Int.gcd n d : Int) = -(Int.gcd n d : Int) by omega]
    refine ⟨⟨by omega, div_big (by rw [Int.natAbs_neg]; exact g1)⟩, ⟨by omega, div_big (by rw [Int.natAbs_neg]; exact g1)⟩, by decide, ?_, gc_self _ _⟩
    simp only [frac, if_pos hn]
  · rw [wc]; bv_omega
    refine ⟨⟨by omega, div_big g1⟩, ⟨by omega, div_big g1⟩, by decide, ?_, gc_self _ _⟩
    simp only [frac, if_neg hn]
end
end Lp
namespace Lp
open Lg
local macro_rules
  | `(tactic| bv_omega) => `(tactic| simp only [exec, evs, evo, evc, evIt, asg, asgs, evt, e_non, e_bl, e_int, e_str, e_var, e_bin, e_neg, e_not, e_cmp, e_and, e_or, e_ite, e_call, e_prim, e_isi, e_ix, e_slice, e_tup, e_lst, e_comp, e_lrange, e_meth, e_chain,
      wn, wp_bind, wp_lift, wp_noexc, wp_ok, wp_exc, wp_bad, bind_ok, lift_ok, wp_ite, conj_bad, b_add, b_addT, b_addL, b_sub, b_mul, b_rep, b_fdiv, b_mod, pw_9, pw_12, pw_15, pw_18, pw_19, pw_20, pw_43, pw_45, b_shl, i_add, i_sub, i_mul, i_fdiv, i_mod, c_eq, c_ne, c_lt, c_le, c_gt, c_ge, c_is, c_isNot, p_len, p_abs, p_min2, p_max2, p_int, p_intb, p_tuple, p_list, p_sum, p_any, p_all,
      q_tup, q_scr, q_fro, l_scr, l_fro, q_ref, l_ref, x_int, t_bl, t_int, t_non, t_tup, t_scr, ty_int, ty_intb, ty_bool, ty_booli, ty_tup, ty_tupi, ty_tupn, ty_tups, ty_str, sl_fro, sl_scr, sl_tup, nl_t, nl_f, k_tup, k_scr, k_fro, k_ref, wipe, s_ref, m_app, ix_40, ix_41, ix_42, ix_43, mo_ref, mo_bits, m_bits, at_0, at_1, at_2, at_3, at_last, Option.bind_some, Option.map_some, lit_0, lit_1, lit_2, lit_3, lit_4, lit_5, lit_6, implies_true, Int.zero_add, Int.toNat_natCast, at_nat, List.getElem?_map, rd_int, rd_non, rd_bl, rd_str, dq_int, dq_non, dq_str, n_non, n_int, n_tup, n_str, ty_stri, ty_strn, ty_strt, ty_tupb, t_ref, start,
      List.getElem?_cons_zero, List.getElem?_cons_succ, List.set_cons_zero, List.set_cons_succ, List.map_cons, List.map_nil, List.length_cons, List.length_nil, List.replicate, List.cons_append, List.nil_append, Nat.reduceAdd, Nat.reduceSub,
      decide_eq_true_eq, decide_eq_false_iff_not, beq_iff_eq, beq_eq_false_iff_ne, Bool.not_eq_true', Bool.not_eq_false', Bool.not_eq_eq_eq_not, bne_iff_ne, Bool.or_false, Bool.or_true, Bool.false_or, Bool.true_or, Bool.and_false, Bool.and_true, Bool.false_and, Bool.true_and, not_false_eq_true, not_true_eq_false, Bool.not_true, Bool.not_false, true_and, and_true, ne_eq, forall_const, if_true, if_false, true_implies, false_implies, reduceCtorEq, Bool.false_eq_true, Bool.true_eq_false])
/-! ### the script's tank -/
def Tank (c : Cell) (n : Nat) : Prop := ∃ (ns : List Int) (p t f : Int), c = .lst [.scr (ns.map .int), .int p, .int t, .int f] ∧ 0 ≤ p ∧ 0 ≤ t ∧ 0 ≤ f ∧ f ≤ n
theorem at_map (ns : List Int) (i : Int) : atI (ns.map D.int) i = (atI ns i).map D.int := by
  unfold atI
  rw [List.length_map]
  cases ixN ns.length i with
  | none => rfl
  | some j => simp
theorem at_in {α : Type} (ns : List α) {i : Int} (h0 : 0 ≤ i) (h1 : i < ns.length) : ∃ x, atI ns i = some x := by
  unfold atI ixN
  rw [if_pos h0, if_pos h1]
  simp only [Option.bind_some]
  exact ⟨_, List.getElem?_eq_getElem (by omega)⟩
section
variable {P : Pg} {sub : String → String → Option Bool} {k : Nat} {st : Store}
theorem fill_ok (h : P.fn "_law_fill" = some Fn.f__law_fill) {c : Cell} {r : Store} {n : Nat} (hT : Tank c n) (hn : n < 2 ^ 60) :
    wp (callF P sub (k + 1) "_law_fill" [.ref 0] (c :: r)) (fun d st' => ∃ (t : Int) (c' : Cell), d = .int t ∧ 0 ≤ t ∧ Tank c' (n + 1) ∧ st' = c' :: r) NE := by
  obtain ⟨ns, p, t, f, rfl, hp, ht, hf, hfn⟩ := hT
  refine wcall h rfl ?_
  dsimp only [Fn.f__law_fill]
  have hf3 : f < 1152921504606846976 := by
    have : (n : Int) < 2 ^ 60 := by exact_mod_cast hn
    omega
  rw [wc]; bv_omega
  rw [wc]; bv_omega
  refine ⟨mul_ok (by omega) (by omega), ?_⟩
  rw [wc]
  refine wjoin (fun e s => ∃ (number p' : Int), e = [some (.ref 0), some (.int number)] ∧ 0 ≤ number ∧ number < 1000000000000000000000000000000 ∧ 0 ≤ p' ∧ s = .lst [.scr (ns.map .int), .int p', .int t, .int (f + 1)] :: r) ?_ ?_
  · bv_omega
    refine ⟨fun hlt => ?_, fun hge => ⟨_, p, rfl, by omega, by omega, hp, rfl⟩⟩
    rw [List.length_map] at hlt
    obtain ⟨x, hx⟩ := at_in ns hp hlt
    rw [wc]; bv_omega
    simp only [at_map, hx, Option.map_some]; bv_omega
    rw [wc]; bv_omega
    rw [wc]
    refine wjoin (fun e s => ∃ (number : Int), e = [some (.ref 0), some (.int number)] ∧ 0 ≤ number ∧ s = .lst [.scr (ns.map .int), .int (p + 1), .int t, .int (f + 1)] :: r) ?_ ?_
    · bv_omega
      refine ⟨fun h0 => ?_, fun h0 => ⟨x, rfl, by omega⟩⟩
      rw [wc]; bv_omega
      exact ⟨_, rfl, by omega⟩
    · rintro e s ⟨number, rfl, h0, rfl⟩
      rw [wc]; bv_omega
      refine ⟨fun h1 => ?_, fun h1 => ⟨_, p + 1, rfl, h0, by omega, by omega, rfl⟩⟩
      rw [wc]; bv_omega
      exact ⟨_, _, rfl, h0, ⟨ns, p + 1, t, f + 1, rfl, by omega, ht, by omega, by omega⟩, gc_len _ rfl⟩
  · rintro e s ⟨number, p', rfl, h0, h1, hp', rfl⟩
    rw [wc]
    refine wjoin (fun e s => ∃ (number : Int), e = [some (.ref 0), some (.int number)] ∧ 0 ≤ number ∧ number < 2000000000000000000000000000000 ∧ s = .lst [.scr (ns.map .int), .int p', .int t, .int (f + 1)] :: r) ?_ ?_
    · bv_omega
      cases ns with
      | nil =>
        bv_omega
        simp only [List.isEmpty_nil]; bv_omega
        exact ⟨_, rfl, h0, by omega⟩
      | cons x xs =>
        bv_omega
        simp only [List.isEmpty_cons]; bv_omega
        refine ⟨fun hge => ?_, fun _ => ⟨_, rfl, h0, by omega⟩⟩
        rw [wc]; bv_omega
        simp only [← List.map_cons, List.getLast?_map]
        cases hl : (x :: xs).getLast? with
        | none => simp at hl
        | some y =>
          simp only [Option.map_some]; bv_omega
          have hf := fmod_pos (x := y) (y := 1000003) (by decide)
          exact ⟨by decide, _, rfl, by omega, by omega⟩
    · rintro e s ⟨number, rfl, h0, h1, rfl⟩
      rw [wc]; bv_omega
      refine ⟨mul_ok (by omega) (by omega), mul_ok (by omega) (by omega), by decide, ?_⟩
      have hf := fmod_pos (x := number * 48271 + (f + 1) * 69621) (y := 2147483647) (by decide)
      generalize (number * 48271 + (f + 1) * 69621).fmod 2147483647 = q at hf
      rw [wc]; bv_omega
      refine ⟨mul_ok (by omega) (by omega), mul_ok (by omega) (by omega), ⟨by decide, div_ok (by decide)⟩, ?_⟩
      refine ⟨_, _, rfl, ?_, ⟨ns, p', t, f + 1, rfl, hp', ht, by omega, by omega⟩, gc_len _ rfl⟩
      have h2 : 0 ≤ q * q := Int.mul_nonneg hf.1 hf.1
      have h3 : 0 ≤ (q * q + (f + 1) * 7919 + 11).fdiv 64 := by
        rw [Int.fdiv_eq_ediv_of_nonneg _ (by decide)]
        exact Int.ediv_nonneg (by omega) (by decide)
      omega
theorem take_ok (h : P.fn "_law_take" = some Fn.f__law_take) (hfl : P.fn "_law_fill" = some Fn.f__law_fill) {c : Cell} {r : Store} {n : Nat} {m : Int} (hT : Tank c n) (hn : n < 2 ^ 60) (hm : 0 < m) (hm2 : m.natAbs < 2 ^ 250) :
    wp (callF P sub (k + 2) "_law_take" [.ref 0, .int m] (c :: r)) (fun d st' => ∃ (v : Int) (c' : Cell), d = .int v ∧ 0 ≤ v ∧ v < m ∧ Tank c' (n + 1) ∧ st' = c' :: r) NE := by
  refine wcall h rfl ?_
  dsimp only [Fn.f__law_take]
  rw [wc]
  refine wjoin (fun e s => ∃ c', e = [some (.ref 0), some (.int m), none] ∧ Tank c' (n + 1) ∧ s = c' :: r) ?_ ?_
  · obtain ⟨ns, p, t, f, rfl, hp, ht, hf, hfn⟩ := id hT
    bv_omega
    refine ⟨fun hlt => ?_, fun _ => ⟨_, ⟨ns, p, t, f, rfl, hp, ht, hf, by omega⟩, rfl⟩⟩
    rw [wc]; bv_omega
    refine wp_imp (fill_ok hfl hT hn) ?_
    rintro _ _ ⟨t', c', rfl, ht', ⟨ns, p, t, f, rfl, hp, ht, hf, hfn⟩, rfl⟩
    bv_omega
    exact ⟨_, ⟨ns, p, t', f, rfl, hp, ht', hf, hfn⟩, rfl⟩
  · rintro e s ⟨c', rfl, ⟨ns, p, t, f, rfl, hp, ht, hf, hfn⟩, rfl⟩
    rw [wc]; bv_omega
    refine ⟨by omega, ?_⟩
    have hq := fmod_pos (x := t) hm
    rw [wc]; bv_omega
    refine ⟨⟨by omega, div_ok hm2⟩, ?_⟩
    rw [wc]; bv_omega
    refine ⟨_, _, rfl, hq.1, hq.2, ⟨ns, p, _, f, rfl, hp, ?_, hf, hfn⟩, gc_len _ rfl⟩
    rw [Int.fdiv_eq_ediv_of_nonneg _ (by omega)]
    exact Int.ediv_nonneg ht (by omega)
theorem start_ok (h : P.fn "_law_start" = some Fn.f__law_start) {ns : List Int} (hl : ns.length ≤ 63) :
    wp (callF P sub (k + 1) "_law_start" [.fro (ns.map .int)] []) (fun d st' => ∃ c', d = .ref 0 ∧ Tank c' 0 ∧ st' = [c']) NE := by
  refine wcall h rfl ?_
  dsimp only [Fn.f__law_start]
  rw [wc]; bv_omega
  have e : cut (ns.map D.int) none (some 63) = ns.map D.int := by
    rw [show (63 : Int) = ((63 : Nat) : Int) from rfl, cut_to, List.take_of_length_le (by rw [List.length_map]; exact hl)]
  rw [e]
  refine wmap id rfl (by rw [List.length_map]; exact Nat.le_trans hl (by decide)) (fun x hx => ?_) ?_
  · obtain ⟨i, _, rfl⟩ := List.mem_map.mp hx
    bv_omega
    rfl
  · bv_omega
    rw [List.map_id]
    refine ⟨by decide, _, ⟨ns, 0, 0, 0, rfl, by decide, by decide, by decide, by decide⟩, ?_⟩
    rfl
theorem Tank.mono {c : Cell} {n m : Nat} (h : Tank c n) (hm : n ≤ m) : Tank c m := by
  obtain ⟨ns, p, t, f, rfl, h1, h2, h3, h4⟩ := h
  exact ⟨ns, p, t, f, rfl, h1, h2, h3, by omega⟩
/-- the functions that read the script -/
structure HasTank (P : Pg) : Prop where
  fill : P.fn "_law_fill" = some Fn.f__law_fill
  take : P.fn "_law_take" = some Fn.f__law_take
  start : P.fn "_law_start" = some Fn.f__law_start
theorem wtake {Q : D → Store → Prop} {Er : String → Store → Prop} (h : HasTank P) {c : Cell} {r : Store} {n : Nat} {m : Int} (hT : Tank c n) (hn : n < 2 ^ 60) (hm : 0 < m) (hm2 : m.natAbs < 2 ^ 250)
    (q : ∀ (v : Int) (c' : Cell), 0 ≤ v → v < m → Tank c' (n + 1) → Q (.int v) (c' :: r)) : wp (callF P sub (k + 2) "_law_take" [.ref 0, .int m] (c :: r)) Q Er := by
  refine wp_imp (take_ok h.take h.fill hT hn hm hm2) ?_
  rintro _ _ ⟨v, c', rfl, h1, h2, h3, rfl⟩
  exact q v c' h1 h2 h3
end
end Lp
namespace Al
open Lean.Grind
/-! ### lists of coefficients -/
section
variable {R : Type} [CommRing R] [DecidableEq R]
def cf (l : List R) (k : Nat) : R := l[k]?.getD 0
theorem cf_nil (k : Nat) : cf ([] : List R) k = 0 := by simp [cf]
theorem cf_z (a : R) (l : List R) : cf (a :: l) 0 = a := by simp [cf]
theorem cf_s (a : R) (l : List R) (k : Nat) : cf (a :: l) (k + 1) = cf l k := by simp [cf]
theorem cf_ge {l : List R} {k : Nat} (h : l.length ≤ k) : cf l k = 0 := by simp [cf, List.getElem?_eq_none h]
theorem cf_get {l : List R} {k : Nat} (h : k < l.length) : cf l k = l[k] := by simp [cf, List.getElem?_eq_getElem h]
theorem cf_some {l : List R} {k : Nat} {x : R} (h : l[k]? = some x) : cf l k = x := by simp [cf, h]
theorem cf_set {l : List R} {i : Nat} (h : i < l.length) (x : R) (k : Nat) : cf (l.set i x) k = if k = i then x else cf l k := by
  unfold cf
  rw [List.getElem?_set]
  by_cases e : i = k
  · subst e; simp [h]
  · simp [e, Ne.symm e, show ¬k = i from fun z => e z.symm]
theorem cf_map {S : Type} [CommRing S] (f : R → S) (hf : f 0 = 0) (l : List R) (k : Nat) : cf (l.map f) k = f (cf l k) := by
  unfold cf
  rw [List.getElem?_map]
  cases l[k]? <;> simp [hf]
theorem cf_rep (n k : Nat) : cf (List.replicate n (0 : R)) k = 0 := by
  unfold cf
  rw [List.getElem?_replicate]
  split <;> rfl
/-- without zeros at the end -/
def trim : List R → List R
  | [] => []
  | a :: l => if trim l = [] ∧ a = 0 then [] else a :: trim l
def Nrm (l : List R) : Prop := ∀ a, l.getLast? = some a → a ≠ 0
theorem trim_cf : ∀ (l : List R) (k : Nat), cf (trim l) k = cf l k
  | [], k => rfl
  | a :: l, k => by
    unfold trim
    split
    · rename_i h
      cases k with
      | zero => rw [cf_nil, cf_z, h.2]
      | succ k => rw [cf_nil, cf_s, ← trim_cf l k, h.1, cf_nil]
    · cases k with
      | zero => rw [cf_z, cf_z]
      | succ k => rw [cf_s, cf_s, trim_cf l k]
theorem trim_nrm : ∀ l : List R, Nrm (trim l)
  | [] => by intro a h; simp [trim] at h
  | b :: l => by
    intro a h
    unfold trim at h
    split at h
    · simp at h
    · rename_i hn
      cases e : trim l with
      | nil =>
        rw [e] at h hn
        simp at h hn
        rw [← h]; exact hn
      | cons c r =>
        rw [e, List.getLast?_cons_cons] at h
        exact trim_nrm l a (by rw [e]; exact h)
theorem nrm_tail {a : R} {l : List R} (h : Nrm (a :: l)) : Nrm l := by
  intro b hb
  cases l with
  | nil => simp at hb
  | cons c r => exact h b (by rw [List.getLast?_cons_cons]; exact hb)
theorem trim_of : ∀ {l : List R}, Nrm l → trim l = l
  | [], _ => rfl
  | a :: l, h => by
    unfold trim
    rw [trim_of (nrm_tail h)]
    rw [if_neg]
    rintro ⟨rfl, rfl⟩
    exact h 0 rfl rfl
theorem nrm_ext {l m : List R} (hl : Nrm l) (hm : Nrm m) (h : ∀ k, cf l k = cf m k) : l = m := by
  have key : ∀ {l m : List R}, Nrm l → (∀ k, cf l k = cf m k) → l.length ≤ m.length := by
    intro l m hl h
    apply Classical.byContradiction
    intro hn
    cases e : l.getLast? with
    | none => rw [List.getLast?_eq_none_iff] at e; subst e; simp at hn
    | some a =>
      rw [List.getLast?_eq_getElem?] at e
      have h1 := h (l.length - 1)
      rw [cf_some e, cf_ge (by omega)] at h1
      exact hl a (by rw [List.getLast?_eq_getElem?]; exact e) h1
  have e := Nat.le_antisymm (key hl h) (key hm fun k => (h k).symm)
  apply List.ext_getElem e
  intro i h1 h2
  have := h i
  rwa [cf_get h1, cf_get h2] at this
theorem trim_ext {l m : List R} (h : ∀ k, cf l k = cf m k) : trim l = trim m := nrm_ext (trim_nrm l) (trim_nrm m) fun k => by rw [trim_cf, trim_cf, h]
theorem trim_len : ∀ l : List R, (trim l).length ≤ l.length
  | [] => Nat.le_refl _
  | a :: l => by
    unfold trim
    split
    · simp
    · simp only [List.length_cons]; have := trim_len l; omega
/-- the sum -/
def addL : List R → List R → List R
  | [], m => m
  | a :: l, [] => a :: l
  | a :: l, b :: m => (a + b) :: addL l m
theorem cf_addL : ∀ (l m : List R) (k : Nat), cf (addL l m) k = cf l k + cf m k
  | [], m, k => by rw [addL, cf_nil]; grind
  | a :: l, [], k => by rw [addL, cf_nil]; grind
  | a :: l, b :: m, 0 => by simp only [addL, cf_z]
  | a :: l, b :: m, k + 1 => by simp only [addL, cf_s, cf_addL l m k]
theorem addL_len : ∀ (l m : List R), (addL l m).length = max l.length m.length
  | [], m => by simp [addL]
  | a :: l, [] => by simp [addL]
  | a :: l, b :: m => by simp [addL, addL_len l m]
def scl (a : R) (l : List R) : List R := l.map (a * ·)
theorem cf_scl (a : R) (l : List R) (k : Nat) : cf (scl a l) k = a * cf l k := cf_map (a * ·) (by grind) l k
/-- the product -/
def mulL : List R → List R → List R
  | [], _ => []
  | a :: l, m => addL (scl a m) (0 :: mulL l m)
theorem cf_mulL_nil (m : List R) (k : Nat) : cf (mulL [] m) k = 0 := cf_nil k
theorem cf_mulL_z (a : R) (l m : List R) : cf (mulL (a :: l) m) 0 = a * cf m 0 := by rw [mulL, cf_addL, cf_scl, cf_z]; grind
theorem cf_mulL_s (a : R) (l m : List R) (k : Nat) : cf (mulL (a :: l) m) (k + 1) = a * cf m (k + 1) + cf (mulL l m) k := by rw [mulL, cf_addL, cf_scl, cf_s]
theorem mulL_congr : ∀ {l l' m m' : List R}, (∀ k, cf l k = cf l' k) → (∀ k, cf m k = cf m' k) → ∀ k, cf (mulL l m) k = cf (mulL l' m') k := by
  intro l
  induction l with
  | nil =>
    intro l' m m' hl hm
    have z : ∀ (l' : List R), (∀ k, cf l' k = 0) → ∀ k, cf (mulL l' m') k = 0 := by
      intro l'
      induction l' with
      | nil => intro _ k; exact cf_nil k
      | cons b l' ih =>
        intro h k
        have hb : b = 0 := by have := h 0; rwa [cf_z] at this
        have h' : ∀ k, cf l' k = 0 := fun k => by have := h (k + 1); rwa [cf_s] at this
        cases k with
        | zero => rw [cf_mulL_z, hb]; grind
        | succ k => rw [cf_mulL_s, hb, ih h' k]; grind
    intro k
    rw [cf_mulL_nil, z l' (fun k => by rw [← hl k, cf_nil]) k]
  | cons a l ih =>
    intro l' m m' hl hm k
    cases l' with
    | nil =>
      have z : ∀ (l : List R), (∀ k, cf l k = 0) → ∀ k, cf (mulL l m) k = 0 := by
        intro l'
        induction l' with
        | nil => intro _ k; exact cf_nil k
        | cons b l' ih =>
          intro h k
          have hb : b = 0 := by have := h 0; rwa [cf_z] at this
          have h' : ∀ k, cf l' k = 0 := fun k => by have := h (k + 1); rwa [cf_s] at this
          cases k with
          | zero => rw [cf_mulL_z, hb]; grind
          | succ k => rw [cf_mulL_s, hb, ih h' k]; grind
      rw [cf_mulL_nil]
      exact z _ (fun k => by rw [hl k, cf_nil]) k
    | cons b l' =>
      have hb : a = b := by have := hl 0; rwa [cf_z, cf_z] at this
      have h' : ∀ k, cf l k = cf l' k := fun k => by have := hl (k + 1); rwa [cf_s, cf_s] at this
      cases k with
      | zero => rw [cf_mulL_z, cf_mulL_z, hb, hm]
      | succ k => rw [cf_mulL_s, cf_mulL_s, hb, hm, ih h' hm k]
theorem mulL_add : ∀ (l l' m : List R) (k : Nat), cf (mulL (addL l l') m) k = cf (mulL l m) k + cf (mulL l' m) k
  | [], l', m, k => by rw [addL, cf_mulL_nil]; grind
  | a :: l, [], m, k => by rw [addL, cf_mulL_nil]; grind
  | a :: l, b :: l', m, 0 => by simp only [addL, cf_mulL_z]; grind
  | a :: l, b :: l', m, k + 1 => by simp only [addL, cf_mulL_s, mulL_add l l' m k]; grind
theorem mulL_scl : ∀ (a : R) (l m : List R) (k : Nat), cf (mulL (scl a l) m) k = a * cf (mulL l m) k
  | a, [], m, k => by show cf (mulL [] m) k = _; rw [cf_mulL_nil]; grind
  | a, b :: l, m, 0 => by show cf (mulL (a * b :: scl a l) m) 0 = _; simp only [cf_mulL_z]; grind
  | a, b :: l, m, k + 1 => by show cf (mulL (a * b :: scl a l) m) (k + 1) = _; simp only [cf_mulL_s, mulL_scl a l m k]; grind
theorem mulL_shift (l m : List R) (k : Nat) : cf (mulL (0 :: l) m) k = cf (0 :: mulL l m) k := by
  cases k with
  | zero => rw [cf_mulL_z, cf_z]; grind
  | succ k => rw [cf_mulL_s, cf_s]; grind
theorem mulL_nil : ∀ (l : List R) (k : Nat), cf (mulL l []) k = 0
  | [], k => cf_nil k
  | a :: l, 0 => by rw [cf_mulL_z, cf_nil]; grind
  | a :: l, k + 1 => by rw [cf_mulL_s, cf_nil, mulL_nil l k]; grind
theorem mulL_cons : ∀ (l : List R) (b : R) (m : List R) (k : Nat), cf (mulL l (b :: m)) k = b * cf l k + cf (0 :: mulL l m) k
  | [], b, m, k => by
    rw [cf_mulL_nil, cf_nil]
    cases k with
    | zero => rw [cf_z]; grind
    | succ k => rw [cf_s, cf_mulL_nil]; grind
  | a :: l, b, m, 0 => by rw [cf_mulL_z, cf_z, cf_z, cf_z]; grind
  | a :: l, b, m, k + 1 => by
    rw [cf_mulL_s, cf_s, cf_s, mulL_cons l b m k, cf_s]
    cases k with
    | zero => rw [cf_z, cf_mulL_z]; grind
    | succ k => rw [cf_s, cf_mulL_s]; grind
theorem mulL_comm : ∀ (l m : List R) (k : Nat), cf (mulL l m) k = cf (mulL m l) k
  | [], m, k => by rw [cf_mulL_nil, mulL_nil]
  | a :: l, m, k => by
    rw [mulL_cons]
    cases k with
    | zero => rw [cf_mulL_z, cf_z]; grind
    | succ k => rw [cf_mulL_s, cf_s, mulL_comm l m k]
theorem mulL_assoc : ∀ (l m n : List R) (k : Nat), cf (mulL (mulL l m) n) k = cf (mulL l (mulL m n)) k
  | [], m, n, k => by rw [cf_mulL_nil]; show cf (mulL [] n) k = 0; rw [cf_mulL_nil]
  | a :: l, m, n, k => by
    rw [mulL, mulL_add, mulL_scl, mulL_shift]
    cases k with
    | zero => rw [cf_z, cf_mulL_z]; grind
    | succ k => rw [cf_s, cf_mulL_s, mulL_assoc l m n k]
theorem mulL_snoc : ∀ (l : List R) (a : R) (m : List R) (k : Nat), cf (mulL (l ++ [a]) m) k = cf (mulL l m) k + if l.length ≤ k then a * cf m (k - l.length) else 0
  | [], a, m, k => by
    show cf (mulL [a] m) k = cf [] k + if 0 ≤ k then _ else _
    rw [if_pos (Nat.zero_le _), cf_nil]
    cases k with
    | zero => rw [cf_mulL_z]; grind
    | succ k => rw [cf_mulL_s, cf_mulL_nil]; simp only [List.length_nil, Nat.sub_zero]; grind
  | b :: l, a, m, 0 => by
    show cf (mulL (b :: (l ++ [a])) m) 0 = _
    rw [cf_mulL_z, cf_mulL_z, if_neg (by simp)]; grind
  | b :: l, a, m, k + 1 => by
    show cf (mulL (b :: (l ++ [a])) m) (k + 1) = _
    rw [cf_mulL_s, cf_mulL_s, mulL_snoc l a m k]
    simp only [List.length_cons, Nat.add_le_add_iff_right, Nat.add_sub_add_right]
    grind
theorem mulL_len : ∀ (l m : List R), l ≠ [] → m ≠ [] → (mulL l m).length = l.length + m.length - 1
  | [], _, h, _ => absurd rfl h
  | [a], m, _, hm => by
    have : 0 < m.length := by cases m; exact absurd rfl hm; simp
    rw [mulL, addL_len]
    simp [scl, mulL]; omega
  | a :: b :: l, m, _, hm => by
    have : 0 < m.length := by cases m; exact absurd rfl hm; simp
    rw [mulL, addL_len]
    have := mulL_len (b :: l) m (by simp) hm
    simp only [scl, List.length_map, List.length_cons] at this ⊢
    omega
end
/-! ### the ring of polynomials -/
abbrev nc {R : Type} [CommRing R] : NatCast R := Semiring.natCast
abbrev ic {R : Type} [CommRing R] : IntCast R := Ring.intCast
structure Poly (R : Type) [CommRing R] where
  c : List R
  nrm : Nrm c
namespace Poly
variable {R : Type} [CommRing R] [DecidableEq R]
theorem ext' {p q : Poly R} (h : p.c = q.c) : p = q := by cases p; cases q; cases h; rfl
theorem ext {p q : Poly R} (h : ∀ k, cf p.c k = cf q.c k) : p = q := ext' (nrm_ext p.nrm q.nrm h)
instance : DecidableEq (Poly R) := fun p q => if h : p.c = q.c then isTrue (ext' h) else isFalse fun e => h (e ▸ rfl)
def of (l : List R) : Poly R := ⟨trim l, trim_nrm l⟩
theorem of_cf (l : List R) (k : Nat) : cf (of l).c k = cf l k := trim_cf l k
instance : Add (Poly R) := ⟨fun p q => of (addL p.c q.c)⟩
instance : Mul (Poly R) := ⟨fun p q => of (mulL p.c q.c)⟩
instance : Neg (Poly R) := ⟨fun p => of (p.c.map fun a => -a)⟩
instance : Sub (Poly R) := ⟨fun p q => p + -q⟩
def C (a : R) : Poly R := of [a]
instance (n : Nat) : OfNat (Poly R) n := ⟨C (OfNat.ofNat n)⟩
instance : NatCast (Poly R) := ⟨fun n => C (nc.natCast n)⟩
instance : IntCast (Poly R) := ⟨fun n => C (ic.intCast n)⟩
theorem add_cf (p q : Poly R) (k : Nat) : cf (p + q).c k = cf p.c k + cf q.c k := by
  show cf (of _).c k = _
  rw [of_cf, cf_addL]
theorem mul_cf (p q : Poly R) (k : Nat) : cf (p * q).c k = cf (mulL p.c q.c) k := by
  show cf (of _).c k = _
  rw [of_cf]
theorem neg_cf (p : Poly R) (k : Nat) : cf (-p).c k = -cf p.c k := by
  show cf (of _).c k = _
  rw [of_cf, cf_map _ (by grind)]
theorem C_cf (a : R) (k : Nat) : cf (C a).c k = if k = 0 then a else 0 := by
  unfold C
  rw [of_cf]
  cases k with
  | zero => simp [cf_z]
  | succ k => simp [cf_s, cf_nil]
theorem zero_cf (k : Nat) : cf (0 : Poly R).c k = 0 := by
  show cf (C (OfNat.ofNat 0)).c k = _
  rw [C_cf]; split <;> rfl
theorem C_mul_cf (a : R) (p : Poly R) (k : Nat) : cf (C a * p).c k = a * cf p.c k := by
  rw [mul_cf, show cf (mulL (C a).c p.c) k = cf (mulL [a] p.c) k from mulL_congr (fun k => of_cf [a] k) (fun _ => rfl) k]
  cases k with
  | zero => rw [cf_mulL_z]
  | succ k => rw [cf_mulL_s, cf_mulL_nil]; grind
theorem mul_comm' (p q : Poly R) : p * q = q * p := ext fun k => by rw [mul_cf, mul_cf, mulL_comm]
theorem mul_assoc' (p q r : Poly R) : p * q * r = p * (q * r) := ext fun k => by
  rw [mul_cf, mul_cf, mulL_congr (l' := mulL p.c q.c) (m' := r.c) (fun k => mul_cf _ _ k) (fun _ => rfl), mulL_assoc]
  exact mulL_congr (fun _ => rfl) (fun k => (mul_cf _ _ k).symm) k
theorem add_mul' (p q r : Poly R) : (p + q) * r = p * r + q * r := ext fun k => by
  rw [mul_cf, show cf (mulL (p + q).c r.c) k = cf (mulL (addL p.c q.c) r.c) k from mulL_congr (fun k => of_cf (addL p.c q.c) k) (fun _ => rfl) k, mulL_add, add_cf, mul_cf, mul_cf]
theorem one_mul' (p : Poly R) : 1 * p = p := ext fun k => by
  show cf (C (OfNat.ofNat 1) * p).c k = _
  rw [C_mul_cf]
  show 1 * _ = _
  grind
theorem C_add (a b : R) : C (a + b) = C a + C b := ext fun k => by rw [add_cf, C_cf, C_cf, C_cf]; split <;> grind
theorem C_neg (a : R) : C (-a) = -C a := ext fun k => by rw [neg_cf, C_cf, C_cf]; split <;> grind
def pw (p : Poly R) : Nat → Poly R
  | 0 => 1
  | n + 1 => pw p n * p
instance : HPow (Poly R) Nat (Poly R) := ⟨pw⟩
instance : SMul Nat (Poly R) := ⟨fun n p => C (nc.natCast n) * p⟩
instance : SMul Int (Poly R) := ⟨fun n p => C (ic.intCast n) * p⟩
instance : CommRing (Poly R) where
  nsmul := inferInstance
  npow := inferInstance
  zsmul := inferInstance
  add_zero p := ext fun k => by rw [add_cf, zero_cf]; grind
  add_comm p q := ext fun k => by rw [add_cf, add_cf]; grind
  add_assoc p q r := ext fun k => by rw [add_cf, add_cf, add_cf, add_cf]; grind
  mul_assoc := mul_assoc'
  mul_one p := by rw [mul_comm', one_mul']
  one_mul := one_mul'
  left_distrib p q r := by rw [mul_comm', add_mul', mul_comm' q, mul_comm' r]
  right_distrib := add_mul'
  zero_mul p := ext fun k => by
    show cf (C (OfNat.ofNat 0) * p).c k = _
    rw [C_mul_cf, zero_cf]
    show 0 * _ = _
    grind
  mul_zero p := ext fun k => by
    rw [mul_comm']
    show cf (C (OfNat.ofNat 0) * p).c k = _
    rw [C_mul_cf, zero_cf]
    show 0 * _ = _
    grind
  pow_zero p := rfl
  pow_succ p n := rfl
  ofNat_succ n := by
    show C (OfNat.ofNat (n + 1)) = C (OfNat.ofNat n) + C (OfNat.ofNat 1)
    rw [← C_add, Semiring.ofNat_succ]
  ofNat_eq_natCast n := by
    show C (OfNat.ofNat n) = C (nc.natCast n)
    rw [Semiring.ofNat_eq_natCast]
  nsmul_eq_natCast_mul n p := rfl
  neg_add_cancel p := ext fun k => by rw [add_cf, neg_cf, zero_cf]; grind
  sub_eq_add_neg p q := rfl
  neg_zsmul i p := by
    show C (ic.intCast (-i)) * p = -(C (ic.intCast i) * p)
    apply ext; intro k
    have : (ic.intCast (-i) : R) = -ic.intCast i := Ring.intCast_neg i
    rw [neg_cf, C_mul_cf, C_mul_cf, this]; grind
  zsmul_natCast_eq_nsmul n p := by
    show C (ic.intCast (n : Int)) * p = C (nc.natCast n) * p
    have : (ic.intCast (n : Int) : R) = nc.natCast n := Ring.intCast_natCast n
    rw [this]
  intCast_ofNat n := by
    have : (ic.intCast (OfNat.ofNat n : Int) : R) = OfNat.ofNat n := Ring.intCast_ofNat n
    show C (ic.intCast (OfNat.ofNat n : Int)) = C (OfNat.ofNat n)
    rw [this]
  intCast_neg i := by
    have : (ic.intCast (-i) : R) = -ic.intCast i := Ring.intCast_neg i
    show C (ic.intCast (-i)) = -C (ic.intCast i)
    rw [this, C_neg]
  mul_comm := mul_comm'
end Poly
end Al
namespace Lp
open Lg
theorem sz_0 : (0 ≤ sizeLine) = True := eq_true (by decide)
theorem sz_1 : (1 ≤ sizeLine) = True := eq_true (by decide)
theorem sz_2 : (2 ≤ sizeLine) = True := eq_true (by decide)
theorem sz_3 : (3 ≤ sizeLine) = True := eq_true (by decide)
theorem sz_4 : (4 ≤ sizeLine) = True := eq_true (by decide)
theorem sz_5 : (5 ≤ sizeLine) = True := eq_true (by decide)
theorem sz_6 : (6 ≤ sizeLine) = True := eq_true (by decide)
theorem sz_7 : (7 ≤ sizeLine) = True := eq_true (by decide)
theorem sz_8 : (8 ≤ sizeLine) = True := eq_true (by decide)
theorem sz_9 : (9 ≤ sizeLine) = True := eq_true (by decide)
theorem sz_10 : (10 ≤ sizeLine) = True := eq_true (by decide)
theorem sz_11 : (11 ≤ sizeLine) = True := eq_true (by decide)
theorem sz_12 : (12 ≤ sizeLine) = True := eq_true (by decide)
/-! ### lists by place -/
/-- the list of e 0, .., e (n - 1) -/
def tb {α : Type} (n : Nat) (e : Nat → α) : List α := (List.range n).map e
theorem tb_len {α : Type} {n : Nat} {e : Nat → α} : (tb n e).length = n := by simp [tb]
theorem tb_get {α : Type} {n : Nat} {e : Nat → α} {i : Nat} (h : i < n) : (tb n e)[i]? = some (e i) := by
  simp [tb, h]
theorem tb_none {α : Type} {n : Nat} {e : Nat → α} {i : Nat} (h : n ≤ i) : (tb n e)[i]? = none := by
  rw [List.getElem?_eq_none]; rw [tb_len]; exact h
theorem tb_ext {α : Type} {n : Nat} {e : Nat → α} {l : List α} (hl : l.length = n) (h : ∀ i, i < n → l[i]? = some (e i)) : l = tb n e := by
  apply List.ext_getElem?
  intro i
  by_cases hi : i < n
  · rw [h i hi, tb_get hi]
  · rw [tb_none (by omega), List.getElem?_eq_none (by omega)]
theorem tb_congr {α : Type} {n : Nat} {e f : Nat → α} (h : ∀ i, i < n → e i = f i) : tb n e = tb n f := tb_ext tb_len fun i hi => by rw [tb_get hi, h i hi]
theorem rng_gets : ∀ (n : Nat) (lo : Int) (i : Nat), i < n → (rng lo n)[i]? = some (.int (lo + (i : Nat)))
  | 0, _, _, h => by omega
  | n + 1, lo, 0, _ => by simp [rng]
  | n + 1, lo, i + 1, h => by
    rw [rng, List.getElem?_cons_succ, rng_gets n (lo + 1) i (by omega)]
    congr 2; omega
theorem tb_rng2 {lo : Int} {n : Nat} : rng lo n = tb n fun i => .int (lo + (i : Nat)) := tb_ext (rng_len _ _) fun i hi => rng_gets n lo i hi
theorem tb_rng {n : Nat} : rng 0 n = tb n fun i => .int (i : Nat) := by rw [tb_rng2]; exact tb_congr fun i _ => by simp
theorem enum_len : ∀ (xs : List D) (i : Int), (enumFrom i xs).length = xs.length
  | [], _ => rfl
  | x :: r, i => by simp [enumFrom, enum_len r]
theorem enum_gets : ∀ (xs : List D) (i : Int) (j : Nat), (enumFrom i xs)[j]? = xs[j]?.map fun x => .tup [.int (i + (j : Nat)), x]
  | [], _, _ => by simp [enumFrom]
  | x :: r, i, 0 => by simp [enumFrom]
  | x :: r, i, j + 1 => by
    rw [enumFrom, List.getElem?_cons_succ, enum_gets r (i + 1) j, List.getElem?_cons_succ]
    congr 1; funext y; congr 3; omega
theorem tb_enum {n : Nat} {e : Nat → D} : enumFrom 0 (tb n e) = tb n fun i => .tup [.int (i : Nat), e i] :=
  tb_ext (by rw [enum_len, tb_len]) fun i hi => by rw [enum_gets, tb_get hi]; simp
theorem tb_map {α β : Type} {n : Nat} {e : Nat → α} {f : α → β} : (tb n e).map f = tb n fun i => f (e i) := by simp [tb]
theorem tb_rep {α : Type} {n : Nat} {x : α} : List.replicate n x = tb n fun _ => x := tb_ext (by simp) fun i hi => by rw [List.getElem?_replicate, if_pos hi]
theorem tb_succ {α : Type} {n : Nat} {e : Nat → α} : tb (n + 1) e = tb n e ++ [e n] := by simp [tb, List.range_succ]
theorem tb_mem {α : Type} {n : Nat} {e : Nat → α} {x : α} (h : x ∈ tb n e) : ∃ i, i < n ∧ x = e i := by
  obtain ⟨i, hi, rfl⟩ := List.mem_map.mp h
  exact ⟨i, List.mem_range.mp hi, rfl⟩
/-! ### walks by place -/
/-- a comprehension that changes nothing -/
theorem wmapN {n : Nat} {e f : Nat → D} {ks : List (Nat × List D)} {turn : D → Store → Out (Option D)} {st : Store} {Q : List D → Store → Prop} (hs : stays st ks = true) (hl : n ≤ sizeLine)
    (ht : ∀ i, i < n → wp (turn (e i) st) (fun o s => o = some (f i) ∧ s = st) NE) (q : Q (tb n f) st) : wp (compL ks turn (tb n e) [] st) Q NE := by
  refine wcomp (fun i acc s => s = st ∧ acc = tb i f) (fun i x acc s hx hI => ?_) (fun acc s hI => ?_) [] st ⟨rfl, rfl⟩
  · obtain ⟨rfl, rfl⟩ := hI
    have hi : i < n := by
      have := (List.getElem?_eq_some_iff.mp hx).1
      rwa [tb_len] at this
    rw [tb_get hi] at hx
    cases hx
    refine ⟨hs, ?_⟩
    rw [of_wp (ht i hi)]
    simp only [wp_ok]
    refine ⟨by rw [tb_len]; omega, trivial, tb_succ.symm⟩
  · obtain ⟨rfl, rfl⟩ := hI
    rw [tb_len] at *
    exact ⟨hs, q⟩
/-- a comprehension that changes the store: I i acc s -/
theorem wcompN {n : Nat} {e : Nat → D} {turn : D → Store → Out (Option D)} {Q : List D → Store → Prop} (I : Nat → List D → Store → Prop) (hl : n ≤ sizeLine)
    (step : ∀ i acc st, i < n → acc.length = i → I i acc st → wp (turn (e i) st) (fun o st1 => ∃ y, o = some y ∧ I (i + 1) (acc ++ [y]) st1) NE)
    (done : ∀ acc st, acc.length = n → I n acc st → Q acc st) (st : Store) (h0 : I 0 [] st) : wp (compL [] turn (tb n e) [] st) Q NE := by
  refine wcomp (fun i acc s => acc.length = i ∧ I i acc s) (fun i x acc s hx hI => ?_) (fun acc s hI => ?_) [] st ⟨rfl, h0⟩
  · have hi : i < n := by
      have := (List.getElem?_eq_some_iff.mp hx).1
      rwa [tb_len] at this
    rw [tb_get hi] at hx
    cases hx
    refine ⟨rfl, wp_imp (step i acc s hi hI.1 hI.2) ?_⟩
    rintro o st1 ⟨y, rfl, h⟩
    exact ⟨by rw [hI.1]; omega, by rw [List.length_append, hI.1]; rfl, h⟩
  · rw [tb_len] at hI
    exact ⟨rfl, done acc s hI.1 hI.2⟩
/-- a walk by place -/
theorem wforN {n : Nat} {e : Nat → D} {b : Env → Store → Out Fl} {Q : Fl → Store → Prop} {E : String → Store → Prop} {ks : List (Nat × List D)} {set : D → Env → Store → Out Env} (I : Nat → Env → Store → Prop)
    (hs : ∀ i env st, I i env st → stays st ks = true)
    (step : ∀ i env st, i < n → I i env st → wp (set (e i) env st) (fun env1 st1 => wp (b env1 st1) (fun f st2 => match f with
      | .nx e => I (i + 1) e st2
      | .ct e => I (i + 1) e st2
      | .bk e => Q (.nx e) st2
      | .rt d => Q (.rt d) st2
      | .xc c e => Q (.xc c e) st2) E) NE)
    (done : ∀ env st, I n env st → Q (.nx env) st) :
    ∀ env st, I 0 env st → wp (forL ks set b (tb n e) env st) Q E := by
  refine wfor I (fun i x env st hx hI => ?_) (fun env st hI => ?_)
  · have hi : i < n := by
      have := (List.getElem?_eq_some_iff.mp hx).1
      rwa [tb_len] at this
    rw [tb_get hi] at hx
    cases hx
    exact ⟨hs i env st hI, step i env st hi hI⟩
  · rw [tb_len] at hI
    exact ⟨hs n env st hI, done env st hI⟩
/-! ### the newest list -/
section
variable {st : Store} {c c' : Cell}
theorem snoc_get : (st ++ [c])[st.length]? = some c := by simp
theorem snoc_set : (st ++ [c]).set st.length c' = st ++ [c'] := by simp
theorem snoc_len : (st ++ [c]).length = st.length + 1 := by simp
theorem gc_cell {r : Store} {d : D} : gc (c :: r) (c' :: r) d = c' :: r := gc_len _ rfl
end
/-! ### plain values: no list that may change, no truth value -/
mutual
def pl : Nat → D → Bool
  | _, .non => true
  | _, .int _ => true
  | _, .str _ => true
  | n + 1, .tup xs => pls n xs
  | n + 1, .scr xs => pls n xs
  | _, _ => false
def pls : Nat → List D → Bool
  | _, [] => true
  | n, x :: xs => pl n x && pls n xs
end
theorem pls_mem {n : Nat} : ∀ {xs : List D}, pls n xs = true ↔ ∀ x ∈ xs, pl n x = true
  | [] => by simp [pls]
  | x :: xs => by simp [pls, pls_mem (xs := xs)]
theorem pl_mono : ∀ {n m : Nat}, n ≤ m → ∀ {x : D}, pl n x = true → pl m x = true := by
  intro n
  induction n with
  | zero =>
    intro m h x hx
    cases x <;> cases m <;> simp_all [pl]
  | succ n ih =>
    intro m h x hx
    obtain ⟨m, rfl⟩ : ∃ k, m = k + 1 := ⟨m - 1, by omega⟩
    cases x with
    | tup xs => simp only [pl, pls_mem] at hx ⊢; exact fun y hy => ih (by omega) (hx y hy)
    | scr xs => simp only [pl, pls_mem] at hx ⊢; exact fun y hy => ih (by omega) (hx y hy)
    | _ => simp_all [pl]
theorem mapM_id {f : D → Option D} : ∀ {xs : List D}, (∀ x ∈ xs, f x = some x) → xs.mapM f = some xs
  | [], _ => rfl
  | x :: r, h => by
    rw [List.mapM_cons, h x List.mem_cons_self, mapM_id fun y hy => h y (List.mem_cons_of_mem _ hy)]; rfl
theorem rd_pl {st : Store} : ∀ {n : Nat} {x : D}, pl n x = true → rd st n x = some x := by
  intro n
  induction n with
  | zero => intro x h; cases x <;> simp_all [pl, rd]
  | succ n ih =>
    intro x h
    cases x with
    | tup xs => simp only [pl, pls_mem] at h; simp only [rd]; rw [mapM_id fun y hy => ih (h y hy)]; rfl
    | scr xs => simp only [pl, pls_mem] at h; simp only [rd]; rw [mapM_id fun y hy => ih (h y hy)]; rfl
    | _ => simp_all [pl, rd]
theorem dq_pl : ∀ {n : Nat} {x y : D}, pl n x = true → pl n y = true → deq x y = decide (x = y) := by
  intro n
  have lst : ∀ {n : Nat} (ih : ∀ {x y : D}, pl n x = true → pl n y = true → deq x y = decide (x = y)) {xs ys : List D}, pls n xs = true → pls n ys = true → deqs xs ys = decide (xs = ys) := by
    intro n ih xs
    induction xs with
    | nil => intro ys _ _; cases ys <;> simp [deqs]
    | cons x xs ihx =>
      intro ys h1 h2
      cases ys with
      | nil => simp [deqs]
      | cons y ys =>
        simp only [pls, Bool.and_eq_true] at h1 h2
        rw [deqs, ih h1.1 h2.1, ihx h1.2 h2.2]
        by_cases e : x = y <;> by_cases f : xs = ys <;> simp [e, f]
  have bi : ∀ {α : Type} [BEq α] [LawfulBEq α] [DecidableEq α] (a b : α), (a == b) = decide (a = b) := fun a b => by
    by_cases h : a = b <;> simp [h]
  induction n with
  | zero => intro x y hx hy; cases x <;> cases y <;> simp_all [pl, deq] <;> exact bi _ _
  | succ n ih =>
    intro x y hx hy
    cases x <;> cases y <;> simp_all [pl, deq] <;> first | exact bi _ _ | exact lst ih hx hy
section
variable {st : Store} {x y : D} {xs ys : List D} {s t : String} {i j : Int}
theorem c_isb {a b : Bool} : cop .is (.bl a) (.bl b) st = .ok (.bl (decide (a = b))) st := rfl
theorem c_isnb {a b : Bool} : cop .isNot (.bl a) (.bl b) st = .ok (.bl (!decide (a = b))) st := rfl
theorem rd_tup0 : rd st 40 (.tup []) = some (.tup []) := rfl
theorem rd_tup1 : rd st 40 (.tup [.str s]) = some (.tup [.str s]) := rfl
theorem rd_tup2 : rd st 40 (.tup [.int i, .int j]) = some (.tup [.int i, .int j]) := rfl
theorem rd_si : rd st 40 (.tup [.str s, .int i]) = some (.tup [.str s, .int i]) := rfl
theorem dq_tup : deq (.tup xs) (.tup ys) = deqs xs ys := rfl
theorem dq_tups : deqs (x :: xs) (y :: ys) = (deq x y && deqs xs ys) := rfl
theorem dq_nil : deqs [] [] = true := rfl
theorem dq_sn : deqs (x :: xs) [] = false := rfl
theorem dq_ns : deqs [] (x :: xs) = false := rfl
theorem dq_si : deq (.str s) (.int i) = false := rfl
theorem dq_is : deq (.int i) (.str s) = false := rfl
theorem dq_st : deq (.str s) (.tup xs) = false := rfl
theorem dq_ts : deq (.tup xs) (.str s) = false := rfl
theorem dq_nt : deq .non (.tup xs) = false := rfl
theorem dq_tn : deq (.tup xs) .non = false := rfl
theorem dq_it : deq (.int i) (.tup xs) = false := rfl
theorem dq_ti : deq (.tup xs) (.int i) = false := rfl
theorem dq_ni : deq .non (.int i) = false := rfl
theorem dq_in : deq (.int i) .non = false := rfl
end
theorem wp_one {c : Prop} [Decidable c] {α : Type} {a : α} {st : Store} {Q : α → Store → Prop} {E : String → Store → Prop} : wp (if c then .ok a st else .bad) Q E = (c ∧ Q a st) := wp_ifbad
section
variable {C : Cx} {env : Env} {st : Store}
theorem e_isi2 {t u : Ty} {a : E} : ev C (.isi2 t u a) env st = (ev C a env st).bind fun x st1 => if noTy st1 x then .bad else .ok (.bl (isTy st1 t x || isTy st1 u x)) st1 := rfl
theorem e_glob {x : String} : ev C (.glob x) env st = match C.gl x with
    | some d => .ok d st
    | none => .bad := rfl
theorem ty_listi {i : Int} : isTy st .list (.int i) = false := rfl
theorem ty_lists {s : String} : isTy st .list (.str s) = false := rfl
theorem ty_listn : isTy st .list .non = false := rfl
theorem ty_listb {b : Bool} : isTy st .list (.bl b) = false := rfl
theorem ty_listt {xs : List D} : isTy st .list (.tup xs) = false := rfl
theorem ty_listc {xs : List D} : isTy st .list (.scr xs) = true := rfl
theorem ty_listf {xs : List D} : isTy st .list (.fro xs) = true := rfl
theorem ty_listr {l : Nat} : isTy st .list (.ref l) = true := rfl
theorem ty_tupc {xs : List D} : isTy st .tuple (.scr xs) = false := rfl
theorem ty_strc {xs : List D} : isTy st .str (.scr xs) = false := rfl
theorem ty_intc {xs : List D} : isTy st .int (.scr xs) = false := rfl
theorem ty_intt {xs : List D} : isTy st .int (.tup xs) = false := rfl
theorem ty_ints {s : String} : isTy st .int (.str s) = false := rfl
theorem ty_intn : isTy st .int .non = false := rfl
theorem ty_bools {s : String} : isTy st .bool (.str s) = false := rfl
theorem ty_booln : isTy st .bool .non = false := rfl
theorem ty_boolt {xs : List D} : isTy st .bool (.tup xs) = false := rfl
theorem ty_boolc {xs : List D} : isTy st .bool (.scr xs) = false := rfl
theorem ty_strb {b : Bool} : isTy st .str (.bl b) = false := rfl
theorem dq_bl {a b : Bool} : deq (.bl a) (.bl b) = (a == b) := rfl
theorem n_scr {xs : List D} : isNon (.scr xs) = false := rfl
theorem n_ref {l : Nat} : isNon (.ref l) = false := rfl
theorem n_bl {b : Bool} : isNon (.bl b) = false := rfl
end
end Lp
namespace Lp
open Lg
local macro_rules
  | `(tactic| bv_omega) => `(tactic| try simp only [exec, evs, evo, evc, evIt, asg, asgs, evt, e_non, e_bl, e_int, e_str, e_var, e_bin, e_neg, e_not, e_cmp, e_and, e_or, e_ite, e_call, e_prim, e_isi, e_ix, e_slice, e_tup, e_lst, e_comp, e_lrange, e_meth, e_chain, e_chain3,
      wn, wp_bind, wp_one, e_con, mo_index, e_ladd, madd_ss, e_fnv, e_rev, rev_tup, rev_scr, fn_int, fn_bl, fn_non, fn_str, fn_tup, fn_scr, fn_fro, fn_ref, sz_0, sz_1, sz_2, sz_3, sz_4, sz_5, sz_6, sz_7, sz_8, sz_9, sz_10, sz_11, sz_12, e_isi2, e_lrep, m_rep, e_glob, tb_len, tb_rng, tb_rng2, tb_enum, rd_tup0, rd_tup1, rd_tup2, rd_si, dq_tup, dq_tups, dq_nil, dq_sn, dq_ns, dq_si, dq_is, dq_st, dq_ts, dq_nt, dq_tn, dq_it, dq_ti, dq_ni, dq_in, snoc_get, snoc_set, snoc_len, n_bl, ty_listi, ty_lists, ty_listn, ty_listb, ty_listt, ty_listc, ty_listf, ty_listr, ty_tupc, ty_strc, ty_intc, ty_intt, ty_ints, ty_intn, ty_bools, ty_booln, ty_boolt, ty_boolc, ty_strb, dq_bl, c_isb, c_isnb, n_scr, n_ref,  wp_lift, wp_noexc, wp_ok, wp_exc, wp_bad, bind_ok, lift_ok, wp_ite, conj_bad, b_add, b_addT, b_addL, b_sub, b_mul, b_rep, b_fdiv, b_mod, pw_9, pw_12, pw_15, pw_18, pw_19, pw_20, pw_43, pw_45, b_shl, i_add, i_sub, i_mul, i_fdiv, i_mod, c_eq, c_ne, c_lt, c_le, c_gt, c_ge, c_is, c_isNot, p_len, p_abs, p_min2, p_max2, p_int, p_intb, p_tuple, p_list, p_sum, p_any, p_all,
      q_tup, q_scr, q_fro, l_scr, l_fro, q_ref, l_ref, x_int, t_bl, t_int, t_non, t_tup, t_scr, ty_int, ty_intb, ty_bool, ty_booli, ty_tup, ty_tupi, ty_tupn, ty_tups, ty_str, sl_fro, sl_scr, sl_tup, nl_t, nl_f, k_tup, k_scr, k_fro, k_ref, wipe, s_ref, m_app, ix_40, ix_41, ix_42, ix_43, mo_ref, gd_t, mo_bits, m_bits, at_0, at_1, at_2, at_3, at_last, Option.bind_some, Option.map_some, lit_0, lit_1, lit_2, lit_3, lit_4, lit_5, lit_6, implies_true, Int.zero_add, Int.toNat_natCast, at_nat, List.getElem?_map, rd_int, rd_non, rd_bl, rd_str, dq_int, dq_non, dq_str, n_non, n_int, n_tup, n_str, ty_stri, ty_strn, ty_strt, ty_tupb, t_ref, start,
      List.getElem?_cons_zero, List.getElem?_cons_succ, List.set_cons_zero, List.set_cons_succ, List.map_cons, List.map_nil, List.length_cons, List.length_nil, List.replicate, List.cons_append, List.nil_append, Nat.reduceAdd, Nat.reduceSub, Int.reduceEq, Int.reduceToNat, Int.reduceBEq, Nat.reduceBEq, beq_self_eq_true, Int.reduceBNe, D.bl.injEq, Int.reduceLT, Int.reduceLE, Int.reduceAdd, Int.reduceSub, Int.reduceNeg, String.reduceEq, Nat.reduceEqDiff, gc_self, gc_cell, not_true, not_false_iff, or_self, or_true, true_or, or_false, false_or, and_false, false_and, and_self, eq_self, decide_true, decide_false,
      decide_eq_true_eq, decide_eq_false_iff_not, beq_iff_eq, beq_eq_false_iff_ne, Bool.not_eq_true', Bool.not_eq_false', Bool.not_eq_eq_eq_not, bne_iff_ne, Bool.or_false, Bool.or_true, Bool.false_or, Bool.true_or, Bool.and_false, Bool.and_true, Bool.false_and, Bool.true_and, not_false_eq_true, not_true_eq_false, Bool.not_true, Bool.not_false, true_and, and_true, ne_eq, forall_const, if_true, if_false, true_implies, false_implies, reduceCtorEq, Bool.false_eq_true, Bool.true_eq_false])
local macro_rules
  | `(tactic| simp_wf) => `(tactic| (rw [wc]; bv_omega))
/-! ### primes -/
def IsPr (n : Int) : Prop := 2 ≤ n ∧ ∀ k : Int, 2 ≤ k → k < n → ¬k ∣ n
theorem fmod_dvd {n k : Int} (hk : 0 < k) : n.fmod k = 0 ↔ k ∣ n := by
  rw [Int.fmod_eq_emod_of_nonneg _ (by omega)]
  exact ⟨Int.dvd_of_emod_eq_zero, Int.emod_eq_zero_of_dvd⟩
/-- without a divisor up to the root: a prime -/
theorem isPr_of {n : Int} (h2 : 2 ≤ n) (h : ∀ k : Int, 2 ≤ k → k * k ≤ n → ¬k ∣ n) : IsPr n := by
  refine ⟨h2, fun k hk hkn hd => ?_⟩
  obtain ⟨m, rfl⟩ := hd
  by_cases hs : k * k ≤ k * m
  · exact h k hk hs ⟨m, rfl⟩
  · have hm : m < k := by
      apply Classical.byContradiction
      intro hn
      exact hs (Int.mul_le_mul_of_nonneg_left (by omega) (by omega))
    have hm2 : 2 ≤ m := by
      apply Classical.byContradiction
      intro hn
      have : m ≤ 1 := by omega
      rcases Int.lt_or_le m 1 with hz | hz
      · have : k * m ≤ 0 := Int.mul_nonpos_of_nonneg_of_nonpos (by omega) (by omega)
        omega
      · have : m = 1 := by omega
        subst this
        omega
    refine h m hm2 ?_ ⟨k, Int.mul_comm _ _⟩
    exact Int.mul_le_mul_of_nonneg_right (by omega) (by omega)
structure HasDom (P : Pg) : Prop where
  is_prime : P.fn "is_prime" = some Fn.f_is_prime
  is_integer : P.fn "is_integer" = some Fn.f_is_integer
  is_domain : P.fn "is_domain" = some Fn.f_is_domain
  is_field : P.fn "is_field" = some Fn.f_is_field
  most : P.gl "MOST_PRIME" = some (.int 65521)
section
variable {P : Pg} {sub : String → String → Option Bool} {k : Nat} {st : Store}
theorem is_prime_ok (h : P.fn "is_prime" = some Fn.f_is_prime) {n : Int} (hn : n.natAbs < 2 ^ 200) : ∃ b : Bool, callF P sub (k + 1) "is_prime" [.int n] st = .ok (.bl b) st ∧ (b = true ↔ IsPr n) := by
  have key : wp (callF P sub (k + 1) "is_prime" [.int n] st) (fun d s => ∃ b : Bool, d = .bl b ∧ s = st ∧ (b = true ↔ IsPr n)) NE := by
    refine wcall h rfl ?_
    dsimp only [Fn.f_is_prime]
    rw [wc]; bv_omega
    refine ⟨fun h4 => ?_, fun h4 => ?_⟩
    · rw [wc]; bv_omega
      refine ⟨_, rfl, ?_⟩
      rw [decide_eq_true_iff]
      refine ⟨fun h1 => isPr_of (by omega) fun k h2 hk _ => ?_, fun h => by have := h.1; omega⟩
      have : 2 * k ≤ k * k := Int.mul_le_mul_of_nonneg_right h2 (by omega)
      omega
    rw [wc]; bv_omega
    refine ⟨fun h2 => ?_, fun h2 => ?_⟩
    · rw [wc]; bv_omega
      refine ⟨_, rfl, by simp only [Bool.false_eq_true, false_iff]; intro hp; exact hp.2 2 (by omega) (by omega) ((fmod_dvd (by omega)).mp h2)⟩
    rw [wc]; bv_omega
    rw [wc]; simp only [exec]
    have hb : n < 2 ^ 200 := by omega
    refine wwhile (fun m env s => ∃ k : Int, env = [some (.int n), some (.int k)] ∧ st = s ∧ 3 ≤ k ∧ k.fmod 2 = 1 ∧ k ≤ n ∧ (n - k).toNat = m ∧ ∀ j, 2 ≤ j → j < k → ¬j ∣ n) ?_ _ _ _ ⟨3, rfl, rfl, by omega, by decide, by omega, rfl, ?_⟩
    · rintro m env s ⟨k, rfl, rfl, hk, ho, hkn, rfl, hd⟩
      bv_omega
      refine ⟨mul_ok (by omega) (by omega), fun hle => ?_, fun hgt => ?_⟩
      · rw [wc]; bv_omega
        refine ⟨by omega, fun h0 => ?_, fun h0 => ?_⟩
        · rw [wc]; bv_omega
          refine ⟨_, rfl, ?_⟩
          simp only [Bool.false_eq_true, false_iff]
          intro hp
          have : 3 * k ≤ k * k := Int.mul_le_mul_of_nonneg_right hk (by omega)
          exact hp.2 k (by omega) (by omega) ((fmod_dvd (by omega)).mp h0)
        · rw [wc]; bv_omega
          have hk2 : k + 2 ≤ n := by
            have : 3 * k ≤ k * k := Int.mul_le_mul_of_nonneg_right hk (by omega)
            omega
          rw [Int.fmod_eq_emod_of_nonneg _ (by omega)] at ho
          refine ⟨(n - (k + 2)).toNat, by omega, k + 2, rfl, by omega, ?_, hk2, rfl, fun j h2j hj hjd => ?_⟩
          · rw [Int.fmod_eq_emod_of_nonneg _ (by omega)]; omega
          · rcases Int.lt_trichotomy j k with h | h | h
            · exact hd j h2j h hjd
            · subst h; exact h0 ((fmod_dvd (by omega)).mpr hjd)
            · have e : j = k + 1 := by omega
              subst e
              have : (2 : Int) ∣ k + 1 := by omega
              exact h2 ((fmod_dvd (by omega)).mpr (Int.dvd_trans this hjd))
      · rw [wc]; bv_omega
        refine ⟨_, rfl, ?_⟩
        simp only [true_iff]
        refine isPr_of (by omega) fun j hj hjj => hd j hj ?_
        apply Classical.byContradiction
        intro hn'
        have h1 : k * k ≤ k * j := Int.mul_le_mul_of_nonneg_left (by omega) (by omega)
        have h2 : k * j ≤ j * j := Int.mul_le_mul_of_nonneg_right (by omega) (by omega)
        omega
    · intro j h2j hj hjd
      have : j = 2 := by omega
      subst this
      exact h2 ((fmod_dvd (by omega)).mpr hjd)
  obtain ⟨d, s, e, b, rfl, rfl, hb⟩ := ex_wp key
  exact ⟨b, e, hb⟩
theorem is_prime_true (h : P.fn "is_prime" = some Fn.f_is_prime) {n : Int} (hp : IsPr n) (hn : n ≤ 65521) : callF P sub (k + 1) "is_prime" [.int n] st = .ok (.bl true) st := by
  have := hp.1
  obtain ⟨b, e, hb⟩ := is_prime_ok (P := P) (sub := sub) (k := k) (st := st) h (n := n) (by omega)
  rw [e, hb.mpr hp]
theorem is_integer_int (h : P.fn "is_integer" = some Fn.f_is_integer) {n : Int} : callF P sub (k + 1) "is_integer" [.int n] st = .ok (.bl true) st := by
  apply of_wp
  refine wcall h rfl ?_
  dsimp only [Fn.f_is_integer]
  rw [wc]; bv_omega
end
/-! ### domains -/
inductive Fd where
  | Q | F (p : Nat)
inductive Dm where
  | Z | fld (f : Fd) | P (f : Fd)
def Fd.enc : Fd → D
  | .Q => .tup [.str "Q"]
  | .F p => .tup [.str "F", .int p]
def Dm.enc : Dm → D
  | .Z => .tup [.str "Z"]
  | .fld f => f.enc
  | .P f => .tup [.str "P", f.enc]
def Fd.ok : Fd → Prop
  | .Q => True
  | .F p => IsPr p ∧ p ≤ 65521
def Dm.ok : Dm → Prop
  | .Z => True
  | .fld f => f.ok
  | .P f => f.ok
section
variable {P : Pg} {sub : String → String → Option Bool} {k : Nat} {st : Store}
theorem is_field_ok (h : HasDom P) {f : Fd} (hf : f.ok) : callF P sub (k + 2) "is_field" [f.enc] st = .ok (.bl true) st := by
  apply of_wp
  refine wcall h.is_field rfl ?_
  dsimp only [Fn.f_is_field]
  cases f with
  | Q =>
    simp only [Fd.enc]
    rw [wc]; bv_omega
    rw [wc]; bv_omega
    rw [wc]; bv_omega
    | F p =>
    simp only [Fd.enc]
    obtain ⟨h1, h2⟩ := hf
    have := h1.1
    rw [wc]; bv_omega
    rw [wc]; bv_omega
    rw [wc]; bv_omega
    simp only [is_integer_int h.is_integer, is_prime_true h.is_prime h1 (show (p : Int) ≤ 65521 by omega), h.most]; bv_omega
    refine ⟨fun _ => ?_, fun h3 => absurd (show (1 : Int) < p by omega) h3⟩
    have h4 : (p : Int) ≤ 65521 := by omega
    simp [h4]
theorem is_domain_ok (h : HasDom P) {f : Dm} (hf : f.ok) : callF P sub (k + 3) "is_domain" [f.enc] st = .ok (.bl true) st := by
  apply of_wp
  refine wcall h.is_domain rfl ?_
  dsimp only [Fn.f_is_domain]
  cases f with
  | Z =>
    simp only [Dm.enc]
    simp_wf
    simp_wf
    simp_wf
  | P f =>
    simp only [Dm.enc]
    simp_wf
    simp_wf
    simp_wf
    simp only [is_field_ok h hf]; bv_omega
  | fld f =>
    simp only [Dm.enc]
    have hf' := is_field_ok (k := k) (sub := sub) (st := st) h hf
    cases f with
    | Q =>
      simp only [Fd.enc] at hf' ⊢
      simp_wf
      simp_wf
      simp_wf
      simp only [hf']; bv_omega
    | F p =>
      simp only [Fd.enc] at hf' ⊢
      simp_wf
      simp_wf
      simp_wf
      simp only [hf']; bv_omega
theorem need_domain_ok (h : HasDom P) (hn : P.fn "need_domain" = some Fn.f_need_domain) {f : Dm} (hf : f.ok) : callF P sub (k + 4) "need_domain" [f.enc] st = .ok .non st := by
  apply of_wp
  refine wcall hn rfl ?_
  dsimp only [Fn.f_need_domain]
  simp_wf
  simp only [is_domain_ok h hf]; bv_omega
theorem need_field_ok (h : HasDom P) (hn : P.fn "need_field" = some Fn.f_need_field) {f : Fd} (hf : f.ok) : callF P sub (k + 3) "need_field" [f.enc] st = .ok .non st := by
  apply of_wp
  refine wcall hn rfl ?_
  dsimp only [Fn.f_need_field]
  simp_wf
  simp only [is_field_ok h hf]; bv_omega
end
end Lp
namespace Lp
open Lg
local macro_rules
  | `(tactic| bv_omega) => `(tactic| try simp only [exec, evs, evo, evc, evIt, asg, asgs, evt, e_non, e_bl, e_int, e_str, e_var, e_bin, e_neg, e_not, e_cmp, e_and, e_or, e_ite, e_call, e_prim, e_isi, e_ix, e_slice, e_tup, e_lst, e_comp, e_lrange, e_meth, e_chain, e_chain3,
      wn, wp_bind, wp_one, e_con, mo_index, e_ladd, madd_ss, e_fnv, e_rev, rev_tup, rev_scr, fn_int, fn_bl, fn_non, fn_str, fn_tup, fn_scr, fn_fro, fn_ref, sz_0, sz_1, sz_2, sz_3, sz_4, sz_5, sz_6, sz_7, sz_8, sz_9, sz_10, sz_11, sz_12, e_isi2, e_lrep, m_rep, e_glob, tb_len, tb_rng, tb_rng2, tb_enum, rd_tup0, rd_tup1, rd_tup2, rd_si, dq_tup, dq_tups, dq_nil, dq_sn, dq_ns, dq_si, dq_is, dq_st, dq_ts, dq_nt, dq_tn, dq_it, dq_ti, dq_ni, dq_in, snoc_get, snoc_set, snoc_len, n_bl, ty_listi, ty_lists, ty_listn, ty_listb, ty_listt, ty_listc, ty_listf, ty_listr, ty_tupc, ty_strc, ty_intc, ty_intt, ty_ints, ty_intn, ty_bools, ty_booln, ty_boolt, ty_boolc, ty_strb, dq_bl, c_isb, c_isnb, n_scr, n_ref,  wp_lift, wp_noexc, wp_ok, wp_exc, wp_bad, bind_ok, lift_ok, wp_ite, conj_bad, b_add, b_addT, b_addL, b_sub, b_mul, b_rep, b_fdiv, b_mod, pw_9, pw_12, pw_15, pw_18, pw_19, pw_20, pw_43, pw_45, b_shl, i_add, i_sub, i_mul, i_fdiv, i_mod, c_eq, c_ne, c_lt, c_le, c_gt, c_ge, c_is, c_isNot, p_len, p_abs, p_min2, p_max2, p_int, p_intb, p_tuple, p_list, p_sum, p_any, p_all,
      q_tup, q_scr, q_fro, l_scr, l_fro, q_ref, l_ref, x_int, t_bl, t_int, t_non, t_tup, t_scr, ty_int, ty_intb, ty_bool, ty_booli, ty_tup, ty_tupi, ty_tupn, ty_tups, ty_str, sl_fro, sl_scr, sl_tup, nl_t, nl_f, k_tup, k_scr, k_fro, k_ref, wipe, s_ref, m_app, ix_40, ix_41, ix_42, ix_43, mo_ref, gd_t, mo_bits, m_bits, at_0, at_1, at_2, at_3, at_last, Option.bind_some, Option.map_some, lit_0, lit_1, lit_2, lit_3, lit_4, lit_5, lit_6, implies_true, Int.zero_add, Int.toNat_natCast, at_nat, List.getElem?_map, rd_int, rd_non, rd_bl, rd_str, dq_int, dq_non, dq_str, n_non, n_int, n_tup, n_str, ty_stri, ty_strn, ty_strt, ty_tupb, t_ref, start,
      List.getElem?_cons_zero, List.getElem?_cons_succ, List.set_cons_zero, List.set_cons_succ, List.map_cons, List.map_nil, List.length_cons, List.length_nil, List.replicate, List.cons_append, List.nil_append, Nat.reduceAdd, Nat.reduceSub, Int.reduceEq, Int.reduceToNat, Int.reduceBEq, Nat.reduceBEq, beq_self_eq_true, Int.reduceBNe, D.bl.injEq, Int.reduceLT, Int.reduceLE, Int.reduceAdd, Int.reduceSub, Int.reduceNeg, String.reduceEq, Nat.reduceEqDiff, gc_self, gc_cell, not_true, not_false_iff, or_self, or_true, true_or, or_false, false_or, and_false, false_and, and_self, eq_self, decide_true, decide_false,
      decide_eq_true_eq, decide_eq_false_iff_not, beq_iff_eq, beq_eq_false_iff_ne, Bool.not_eq_true', Bool.not_eq_false', Bool.not_eq_eq_eq_not, bne_iff_ne, Bool.or_false, Bool.or_true, Bool.false_or, Bool.true_or, Bool.and_false, Bool.and_true, Bool.false_and, Bool.true_and, not_false_eq_true, not_true_eq_false, Bool.not_true, Bool.not_false, true_and, and_true, ne_eq, forall_const, if_true, if_false, true_implies, false_implies, reduceCtorEq, Bool.false_eq_true, Bool.true_eq_false])
local macro_rules
  | `(tactic| simp_wf) => `(tactic| (rw [wc]; bv_omega))
/-! ### what a law draws -/
structure HasLaw (P : Pg) : Prop extends HasTank P where
  zero : P.fn "_law_zero" = some Fn.f__law_zero
  strip : P.fn "_law_strip" = some Fn.f__law_strip
  number : P.fn "_law_number" = some Fn.f__law_number
  part : P.fn "_law_part" = some Fn.f__law_part
  add : P.fn "_law_add" = some Fn.f__law_add
  mul : P.fn "_law_multiply" = some Fn.f__law_multiply
  sub : P.fn "_law_subtract" = some Fn.f__law_subtract
  common : P.fn "_law_common" = some Fn.f__law_common
  fraction : P.fn "_law_fraction" = some Fn.f__law_fraction
  some_prime : P.fn "_law_some_prime" = some Fn.f__law_some_prime
  field : P.fn "_law_field" = some Fn.f__law_field
  domain : P.fn "_law_domain" = some Fn.f__law_domain
theorem isPr_chk {n : Nat} (h2 : 2 ≤ n) (h : ∀ i < 255, (i + 2) * (i + 2) ≤ n → n % (i + 2) ≠ 0) (hn : n < 66049) : IsPr n := by
  refine isPr_of (by omega) fun k hk hkk hd => ?_
  obtain ⟨m, rfl⟩ := Int.eq_ofNat_of_zero_le (show 0 ≤ k by omega)
  have h1 : m * m ≤ n := by exact_mod_cast hkk
  have h3 : m ≤ 256 := by
    apply Classical.byContradiction
    intro hc
    have : 257 * 257 ≤ m * m := Nat.mul_le_mul (by omega) (by omega)
    omega
  have h4 := h (m - 2) (by omega)
  rw [show m - 2 + 2 = m by omega] at h4
  exact h4 h1 (Nat.mod_eq_zero_of_dvd (Int.natCast_dvd_natCast.mp hd))
theorem pr_2 : IsPr (2 : Nat) := isPr_chk (by decide) (by decide) (by decide)
theorem pr_3 : IsPr (3 : Nat) := isPr_chk (by decide) (by decide) (by decide)
theorem pr_5 : IsPr (5 : Nat) := isPr_chk (by decide) (by decide) (by decide)
theorem pr_7 : IsPr (7 : Nat) := isPr_chk (by decide) (by decide) (by decide)
theorem pr_11 : IsPr (11 : Nat) := isPr_chk (by decide) (by decide) (by decide)
theorem pr_101 : IsPr (101 : Nat) := isPr_chk (by decide) (by decide) (by decide)
theorem pr_65521 : IsPr (65521 : Nat) := isPr_chk (by decide) (by decide +kernel) (by decide)
section
variable {P : Pg} {sub : String → String → Option Bool} {k : Nat} {st : Store} {Q : D → Store → Prop} {Er : String → Store → Prop} {c : Cell} {r : Store} {n : Nat}
/-- has p a divisor up to its root and 256? -/
def hasDiv (p : Int) : Bool := ((List.range 255).filterMap fun i => if ((2 + (i : Nat) : Int)) * (2 + (i : Nat)) ≤ p then some (p.fmod (2 + (i : Nat)) == 0) else none).any id
theorem hasDiv_iff {p : Int} : hasDiv p = true ↔ ∃ i : Nat, i < 255 ∧ ((2 + (i : Nat) : Int)) * (2 + (i : Nat)) ≤ p ∧ p.fmod (2 + (i : Nat)) = 0 := by
  unfold hasDiv
  rw [List.any_eq_true]
  constructor
  · rintro ⟨b, hb, hb2⟩
    obtain ⟨i, hi, he⟩ := List.mem_filterMap.mp hb
    rw [List.mem_range] at hi
    split at he
    · cases he
      exact ⟨i, hi, by assumption, by simpa using hb2⟩
    · cases he
  · rintro ⟨i, hi, h1, h2⟩
    refine ⟨true, List.mem_filterMap.mpr ⟨i, List.mem_range.mpr hi, ?_⟩, rfl⟩
    rw [if_pos h1, h2]; rfl
theorem hasDiv_pr {p : Int} (h2 : 2 ≤ p) (hp : p ≤ 65521) : hasDiv p = false ↔ IsPr p := by
  constructor
  · intro h
    refine isPr_of h2 fun k hk hkk hd => ?_
    have h3 : k ≤ 256 := by
      apply Classical.byContradiction
      intro hc
      have : 257 * 257 ≤ k * k := Int.mul_le_mul (by omega) (by omega) (by omega) (by omega)
      omega
    have : hasDiv p = true := hasDiv_iff.mpr ⟨(k - 2).toNat, by omega, by rw [show (2 + ((k - 2).toNat : Nat) : Int) = k by omega]; exact hkk, by rw [show (2 + ((k - 2).toNat : Nat) : Int) = k by omega]; exact (fmod_dvd (by omega)).mpr hd⟩
    rw [h] at this; cases this
  · intro h
    cases e : hasDiv p with
    | false => rfl
    | true =>
      obtain ⟨i, hi, h1, h3⟩ := hasDiv_iff.mp e
      have : 2 * (2 + (i : Nat) : Int) ≤ (2 + (i : Nat)) * (2 + (i : Nat)) := Int.mul_le_mul_of_nonneg_right (by omega) (by omega)
      exact absurd ((fmod_dvd (by omega)).mp h3) (h.2 _ (by omega) (by omega))
theorem bools_mapb (bs : List Bool) : bools (bs.map D.bl) = some bs := bools_map bs
theorem wsome_prime (h : HasLaw P) (hT : Tank c n) (hn : n < 2 ^ 60) (q : ∀ (p : Nat) c', IsPr p → p ≤ 65521 → Tank c' (n + 1) → Q (.int p) (c' :: r)) : wp (callF P sub (k + 3) "_law_some_prime" [.ref 0] (c :: r)) Q Er := by
  refine wp_mono (Q := fun d s => ∃ (p : Nat) (c' : Cell), IsPr p ∧ p ≤ 65521 ∧ Tank c' (n + 1) ∧ d = .int p ∧ s = c' :: r) (E := NE) ?_ ?_ (fun _ _ z => z.elim)
  · refine wcall h.some_prime rfl ?_
    dsimp only [Fn.f__law_some_prime]
    simp_wf
    refine wtake h.toHasTank hT hn (by omega) (by omega) fun v c' h0 h1 hT' => ?_
    bv_omega
    rw [wc]; simp only [exec]
    refine wwhile (fun m env s => ∃ p z, env = [some (.ref 0), some (.int p), z] ∧ s = c' :: r ∧ 2 ≤ p ∧ p ≤ 65521 ∧ (65521 - p).toNat = m) ?_ _ _ _ ⟨2 + v, none, rfl, rfl, by omega, by omega, rfl⟩
    rintro m env s ⟨p, z, rfl, rfl, hp2, hp, rfl⟩
    bv_omega
    refine ⟨rng_fine (by omega) (by omega) (by omega) (by omega), ?_⟩
    refine wcompM (fun d => match d with | .int k => if k * k ≤ p then some (.bl (p.fmod k == 0)) else none | _ => none) rfl (by rw [tb_len]; decide) (fun x hx => ?_) ?_
    · obtain ⟨i, hi, rfl⟩ := tb_mem hx
      apply of_wp
      bv_omega
      refine ⟨mul_ok (by omega) (by omega), ?_⟩
      exact ⟨fun hle => ⟨by omega, by rw [if_pos hle]⟩, fun hgt => by rw [if_neg hgt]⟩
    · have e : (tb 255 fun i : Nat => D.int (2 + (i : Nat))).filterMap (fun d => match d with | .int k => if k * k ≤ p then some (.bl (p.fmod k == 0)) else none | _ => none) = ((List.range 255).filterMap fun i => if ((2 + (i : Nat) : Int)) * (2 + (i : Nat)) ≤ p then some (p.fmod (2 + (i : Nat)) == 0) else none).map D.bl := by
        rw [tb, List.filterMap_map, List.map_filterMap]
        congr 1
        funext i
        simp only [Function.comp]
        split <;> rfl
      rw [e]
      bv_omega
      simp only [bools_mapb]
      bv_omega
      show (hasDiv p = true → _) ∧ (hasDiv p = false → _)
      refine ⟨fun hd => ?_, fun hd => ?_⟩
      · simp_wf
        have hne : p ≠ 65521 := fun e => by
          subst e; rw [(hasDiv_pr (p := 65521) (by omega) (by omega)).mpr pr_65521] at hd; cases hd
        exact ⟨(65521 - (p + 1)).toNat, by omega, p + 1, _, rfl, by omega, by omega, rfl⟩
      · simp_wf
        have hp' := (hasDiv_pr hp2 hp).mp hd
        refine ⟨p.toNat, c', ?_, by omega, hT', ?_, ?_⟩
        · rw [show ((p.toNat : Nat) : Int) = p by omega]; exact hp'
        · rw [show ((p.toNat : Nat) : Int) = p by omega]
        · exact rfl
  · rintro d s ⟨p, c', h1, h2, h3, rfl, rfl⟩
    exact q p c' h1 h2 h3
theorem wfield (h : HasLaw P) (hT : Tank c n) (hn : n < 2 ^ 59) (q : ∀ (f : Fd) c', f.ok → Tank c' (n + 2) → Q f.enc (c' :: r)) : wp (callF P sub (k + 4) "_law_field" [.ref 0] (c :: r)) Q Er := by
  refine wp_mono (Q := fun d s => ∃ (f : Fd) (c' : Cell), f.ok ∧ Tank c' (n + 2) ∧ d = f.enc ∧ s = c' :: r) (E := NE) ?_ ?_ (fun _ _ z => z.elim)
  · refine wcall h.field rfl ?_
    dsimp only [Fn.f__law_field]
    simp_wf
    simp_wf
    refine wtake h.toHasTank hT (by omega) (by omega) (by omega) fun v c' h0 h1 hT' => ?_
    bv_omega
    simp_wf
    refine ⟨fun h4 => ?_, fun h4 => ?_⟩
    · simp_wf
      exact ⟨.Q, c', trivial, hT'.mono (by omega), rfl, rfl⟩
    · simp_wf
      refine ⟨fun h5 => ?_, fun h5 => ?_⟩
      · simp_wf
        refine wsome_prime h hT' (by omega) fun p c'' hp hp2 hT'' => ?_
        bv_omega
        exact ⟨.F p, c'', ⟨hp, hp2⟩, hT''.mono (by omega), rfl, rfl⟩
      · simp_wf
        have key : ∀ (w : Nat), w ∈ [2, 3, 5, 7, 11, 101, 65521] → (Fd.F w).ok := by
          intro w hw
          simp only [List.mem_cons, List.not_mem_nil, or_false] at hw
          rcases hw with rfl | rfl | rfl | rfl | rfl | rfl | rfl
          · exact ⟨pr_2, by decide⟩
          · exact ⟨pr_3, by decide⟩
          · exact ⟨pr_5, by decide⟩
          · exact ⟨pr_7, by decide⟩
          · exact ⟨pr_11, by decide⟩
          · exact ⟨pr_101, by decide⟩
          · exact ⟨pr_65521, by decide⟩
        have e : v = 4 ∨ v = 5 ∨ v = 6 ∨ v = 7 ∨ v = 8 ∨ v = 9 ∨ v = 10 := by omega
        rcases e with rfl | rfl | rfl | rfl | rfl | rfl | rfl
        · exact ⟨.F 2, c', key 2 (by decide), hT'.mono (by omega), rfl, gc_cell⟩
        · exact ⟨.F 3, c', key 3 (by decide), hT'.mono (by omega), rfl, gc_cell⟩
        · exact ⟨.F 5, c', key 5 (by decide), hT'.mono (by omega), rfl, gc_cell⟩
        · exact ⟨.F 7, c', key 7 (by decide), hT'.mono (by omega), rfl, gc_cell⟩
        · exact ⟨.F 11, c', key 11 (by decide), hT'.mono (by omega), rfl, gc_cell⟩
        · exact ⟨.F 101, c', key 101 (by decide), hT'.mono (by omega), rfl, gc_cell⟩
        · exact ⟨.F 65521, c', key 65521 (by decide), hT'.mono (by omega), rfl, gc_cell⟩
  · rintro d s ⟨p, c', h1, h2, rfl, rfl⟩
    exact q p c' h1 h2
theorem wdomain (h : HasLaw P) (hT : Tank c n) (hn : n < 2 ^ 58) (q : ∀ (f : Dm) c', f.ok → Tank c' (n + 3) → Q f.enc (c' :: r)) : wp (callF P sub (k + 5) "_law_domain" [.ref 0] (c :: r)) Q Er := by
  refine wp_mono (Q := fun d s => ∃ (f : Dm) (c' : Cell), f.ok ∧ Tank c' (n + 3) ∧ d = f.enc ∧ s = c' :: r) (E := NE) ?_ ?_ (fun _ _ z => z.elim)
  · refine wcall h.domain rfl ?_
    dsimp only [Fn.f__law_domain]
    simp_wf
    refine wtake h.toHasTank hT (by omega) (by omega) (by omega) fun v c' h0 h1 hT' => ?_
    bv_omega
    simp_wf
    refine ⟨fun h4 => ?_, fun h4 => ?_⟩
    · simp_wf
      exact ⟨.Z, c', trivial, hT'.mono (by omega), rfl, rfl⟩
    · simp_wf
      refine ⟨fun h5 => ?_, fun h5 => ?_⟩
      · simp_wf
        refine wfield h hT' (by omega) fun f c'' hf hT'' => ?_
        bv_omega
        exact ⟨.P f, c'', hf, hT''.mono (by omega), rfl, rfl⟩
      · simp_wf
        refine wfield h hT' (by omega) fun f c'' hf hT'' => ?_
        bv_omega
        exact ⟨.fld f, c'', hf, hT''.mono (by omega), rfl, rfl⟩
  · rintro d s ⟨p, c', h1, h2, rfl, rfl⟩
    exact q p c' h1 h2
end
end Lp
namespace Lp
open Lg
local macro_rules
  | `(tactic| bv_omega) => `(tactic| try simp only [exec, evs, evo, evc, evIt, asg, asgs, evt, e_non, e_bl, e_int, e_str, e_var, e_bin, e_neg, e_not, e_cmp, e_and, e_or, e_ite, e_call, e_prim, e_isi, e_ix, e_slice, e_tup, e_lst, e_comp, e_lrange, e_meth, e_chain, e_chain3,
      wn, wp_bind, wp_one, e_con, mo_index, e_ladd, madd_ss, e_fnv, e_rev, rev_tup, rev_scr, fn_int, fn_bl, fn_non, fn_str, fn_tup, fn_scr, fn_fro, fn_ref, sz_0, sz_1, sz_2, sz_3, sz_4, sz_5, sz_6, sz_7, sz_8, sz_9, sz_10, sz_11, sz_12, e_isi2, e_lrep, m_rep, e_glob, tb_len, tb_rng, tb_rng2, tb_enum, rd_tup0, rd_tup1, rd_tup2, rd_si, dq_tup, dq_tups, dq_nil, dq_sn, dq_ns, dq_si, dq_is, dq_st, dq_ts, dq_nt, dq_tn, dq_it, dq_ti, dq_ni, dq_in, snoc_get, snoc_set, snoc_len, n_bl, ty_listi, ty_lists, ty_listn, ty_listb, ty_listt, ty_listc, ty_listf, ty_listr, ty_tupc, ty_strc, ty_intc, ty_intt, ty_ints, ty_intn, ty_bools, ty_booln, ty_boolt, ty_boolc, ty_strb, dq_bl, c_isb, c_isnb, n_scr, n_ref,  wp_lift, wp_noexc, wp_ok, wp_exc, wp_bad, bind_ok, lift_ok, wp_ite, conj_bad, b_add, b_addT, b_addL, b_sub, b_mul, b_rep, b_fdiv, b_mod, pw_9, pw_12, pw_15, pw_18, pw_19, pw_20, pw_43, pw_45, b_shl, i_add, i_sub, i_mul, i_fdiv, i_mod, c_eq, c_ne, c_lt, c_le, c_gt, c_ge, c_is, c_isNot, p_len, p_abs, p_min2, p_max2, p_int, p_intb, p_tuple, p_list, p_sum, p_any, p_all,
      q_tup, q_scr, q_fro, l_scr, l_fro, q_ref, l_ref, x_int, t_bl, t_int, t_non, t_tup, t_scr, ty_int, ty_intb, ty_bool, ty_booli, ty_tup, ty_tupi, ty_tupn, ty_tups, ty_str, sl_fro, sl_scr, sl_tup, nl_t, nl_f, k_tup, k_scr, k_fro, k_ref, wipe, s_ref, m_app, ix_40, ix_41, ix_42, ix_43, mo_ref, gd_t, mo_bits, m_bits, at_0, at_1, at_2, at_3, at_last, Option.bind_some, Option.map_some, lit_0, lit_1, lit_2, lit_3, lit_4, lit_5, lit_6, implies_true, Int.zero_add, Int.toNat_natCast, at_nat, List.getElem?_map, rd_int, rd_non, rd_bl, rd_str, dq_int, dq_non, dq_str, n_non, n_int, n_tup, n_str, ty_stri, ty_strn, ty_strt, ty_tupb, t_ref, start,
      List.getElem?_cons_zero, List.getElem?_cons_succ, List.set_cons_zero, List.set_cons_succ, List.map_cons, List.map_nil, List.length_cons, List.length_nil, List.replicate, List.cons_append, List.nil_append, Nat.reduceAdd, Nat.reduceSub, Int.reduceEq, Int.reduceToNat, Int.reduceBEq, Nat.reduceBEq, beq_self_eq_true, Int.reduceBNe, D.bl.injEq, Int.reduceLT, Int.reduceLE, Int.reduceAdd, Int.reduceSub, Int.reduceNeg, String.reduceEq, Nat.reduceEqDiff, gc_self, gc_cell, not_true, not_false_iff, or_self, or_true, true_or, or_false, false_or, and_false, false_and, and_self, eq_self, decide_true, decide_false,
      decide_eq_true_eq, decide_eq_false_iff_not, beq_iff_eq, beq_eq_false_iff_ne, Bool.not_eq_true', Bool.not_eq_false', Bool.not_eq_eq_eq_not, bne_iff_ne, Bool.or_false, Bool.or_true, Bool.false_or, Bool.true_or, Bool.and_false, Bool.and_true, Bool.false_and, Bool.true_and, not_false_eq_true, not_true_eq_false, Bool.not_true, Bool.not_false, true_and, and_true, ne_eq, forall_const, if_true, if_false, true_implies, false_implies, reduceCtorEq, Bool.false_eq_true, Bool.true_eq_false])
local macro_rules
  | `(tactic| simp_wf) => `(tactic| (rw [wc]; bv_omega))
open Lean.Grind Al
/-! ### fields and domains, with their encodings -/
structure Fld where
  T : Type
  ring : CommRing T
  dec : DecidableEq T
  d : D
  enc : T → D
  Bd : Nat → Nat → T → Prop
instance (X : Fld) : CommRing X.T := X.ring
instance (X : Fld) : DecidableEq X.T := X.dec
structure Dom where
  T : Type
  ring : CommRing T
  dec : DecidableEq T
  d : D
  enc : T → D
  Bd : Nat → Nat → Nat → T → Prop
instance (X : Dom) : CommRing X.T := X.ring
instance (X : Dom) : DecidableEq X.T := X.dec
def qBd (N A : Nat) (x : Rat) : Prop := 0 < N ∧ ∃ a : Int, x = Rat.divInt a N ∧ a.natAbs ≤ A
def qFld : Fld := ⟨Rat, inferInstance, inferInstance, Fd.Q.enc, fun x => .tup [.int x.num, .int x.den], qBd⟩
def pFld (p : Nat) [NeZero p] : Fld := ⟨Fin p, inferInstance, inferInstance, (Fd.F p).enc, fun x => .int x.val, fun N _ _ => 0 < N⟩
def zDom : Dom := ⟨Int, inferInstance, inferInstance, Dm.Z.enc, fun x => .int x, fun _ N A x => 0 < N ∧ x.natAbs ≤ A⟩
def fDom (X : Fld) : Dom := ⟨X.T, X.ring, X.dec, X.d, X.enc, fun _ N A x => X.Bd N A x⟩
/-- the sum of the bounds of coefficients -/
def BdL (X : Fld) (N : Nat) : Nat → List X.T → Prop
  | A, [] => 0 < N
  | A, a :: l => ∃ A1 A2, A1 + A2 ≤ A ∧ X.Bd N A1 a ∧ BdL X N A2 l
def pDom (X : Fld) : Dom := ⟨Poly X.T, inferInstance, inferInstance, .tup [.str "P", X.d], fun p => .tup (p.c.map X.enc), fun l N A p => p.c.length ≤ l ∧ BdL X N A p.c⟩
inductive IsFld : Fld → Prop where
  | Q : IsFld qFld
  | F (p : Nat) [NeZero p] : IsPr p → p ≤ 65521 → IsFld (pFld p)
inductive IsDom : Dom → Prop where
  | Z : IsDom zDom
  | fld {X : Fld} : IsFld X → IsDom (fDom X)
  | P {X : Fld} : IsFld X → IsDom (pDom X)
theorem fld_of {f : Fd} (h : f.ok) : ∃ X : Fld, IsFld X ∧ X.d = f.enc := by
  cases f with
  | Q => exact ⟨qFld, .Q, rfl⟩
  | F p =>
    haveI : NeZero p := ⟨fun e => by subst e; exact absurd h.1.1 (by decide)⟩
    exact ⟨pFld p, .F p h.1 h.2, rfl⟩
theorem dom_of {f : Dm} (h : f.ok) : ∃ X : Dom, IsDom X ∧ X.d = f.enc := by
  cases f with
  | Z => exact ⟨zDom, .Z, rfl⟩
  | fld f =>
    obtain ⟨X, h1, h2⟩ := fld_of (f := f) h
    exact ⟨fDom X, .fld h1, h2⟩
  | P f =>
    obtain ⟨X, h1, h2⟩ := fld_of (f := f) h
    exact ⟨pDom X, .P h1, by show D.tup [.str "P", X.d] = _; rw [h2]; rfl⟩
theorem of_fld {X : Fld} (h : IsFld X) : ∃ f : Fd, f.ok ∧ X.d = f.enc := by
  cases h with
  | Q => exact ⟨.Q, trivial, rfl⟩
  | F p h1 h2 => exact ⟨.F p, ⟨h1, h2⟩, rfl⟩
theorem of_dom {X : Dom} (h : IsDom X) : ∃ f : Dm, f.ok ∧ X.d = f.enc := by
  cases h with
  | Z => exact ⟨.Z, trivial, rfl⟩
  | fld h =>
    obtain ⟨f, h1, h2⟩ := of_fld h
    exact ⟨.fld f, h1, h2⟩
  | @P X h =>
    obtain ⟨f, h1, h2⟩ := of_fld h
    exact ⟨.P f, h1, by show D.tup [.str "P", X.d] = _; rw [h2]; rfl⟩
/-! ### encodings -/
theorem fenc_inj {X : Fld} (h : IsFld X) {x y : X.T} (e : X.enc x = X.enc y) : x = y := by
  cases h with
  | Q =>
    simp only [qFld, D.tup.injEq, List.cons.injEq, D.int.injEq, and_true] at e
    exact Rat.ext e.1 (by exact_mod_cast e.2)
  | F p =>
    simp only [pFld, D.int.injEq] at e
    exact Fin.ext (by exact_mod_cast e)
theorem fenc_pl {X : Fld} (h : IsFld X) (x : X.T) : pl 2 (X.enc x) = true := by
  cases h <;> rfl
theorem enc_pl {X : Dom} (h : IsDom X) (x : X.T) : pl 10 (X.enc x) = true := by
  cases h with
  | Z => rfl
  | fld h => exact pl_mono (by decide) (fenc_pl h x)
  | P h =>
    show pls 9 _ = true
    rw [pls_mem]
    intro y hy
    obtain ⟨z, _, rfl⟩ := List.mem_map.mp hy
    exact pl_mono (by decide) (fenc_pl h z)
theorem d_pl {X : Dom} (h : IsDom X) : pl 10 X.d = true := by
  cases h with
  | Z => rfl
  | fld h => cases h <;> rfl
  | P h => cases h <;> rfl
section
variable {st : Store}
theorem frd {X : Fld} (h : IsFld X) {x : X.T} : rd st 40 (X.enc x) = some (X.enc x) := rd_pl (pl_mono (by decide) (fenc_pl h x))
theorem ddrd {X : Dom} (h : IsDom X) : rd st 40 X.d = some X.d := rd_pl (pl_mono (by decide) (d_pl h))
theorem fdq {X : Fld} (h : IsFld X) {x y : X.T} : deq (X.enc x) (X.enc y) = decide (x = y) := by
  rw [dq_pl (fenc_pl h x) (fenc_pl h y)]
  exact decide_eq_decide.mpr ⟨fenc_inj h, fun e => by rw [e]⟩
end
/-! ### bounds -/
theorem divInt_scale {a : Int} {N M : Nat} (hN : 0 < N) (hM : 0 < M) : Rat.divInt a N = Rat.divInt (a * M) ((N * M : Nat) : Int) := by
  rw [Rat.divInt_eq_divInt_iff (by omega) (by have := Nat.mul_pos hN hM; omega)]
  push_cast; grind
theorem fbd_pos {X : Fld} (h : IsFld X) {N A : Nat} {x : X.T} (hx : X.Bd N A x) : 0 < N := by
  cases h with
  | Q => exact hx.1
  | F p => exact hx
theorem fbd_mono {X : Fld} (h : IsFld X) {N A A' : Nat} {x : X.T} (hA : A ≤ A') (hx : X.Bd N A x) : X.Bd N A' x := by
  cases h with
  | Q => obtain ⟨h1, a, h2, h3⟩ := hx; exact ⟨h1, a, h2, by omega⟩
  | F p => exact hx
theorem fbd_scale {X : Fld} (h : IsFld X) {N A M : Nat} {x : X.T} (hM : 0 < M) (hx : X.Bd N A x) : X.Bd (N * M) (A * M) x := by
  cases h with
  | Q =>
    obtain ⟨h1, a, h2, h3⟩ := hx
    refine ⟨Nat.mul_pos h1 hM, a * M, ?_, ?_⟩
    · rw [h2]; exact divInt_scale h1 hM
    · rw [Int.natAbs_mul, Int.natAbs_natCast]; exact Nat.mul_le_mul_right M h3
  | F p => exact Nat.mul_pos hx hM
theorem fbd_zero {X : Fld} (h : IsFld X) {N : Nat} (hN : 0 < N) (A : Nat) : X.Bd N A 0 := by
  cases h with
  | Q => exact ⟨hN, 0, by rw [Rat.zero_divInt]; rfl, by simp⟩
  | F p => exact hN
theorem fbd_one {X : Fld} (h : IsFld X) {N A : Nat} (hN : 0 < N) (hA : N ≤ A) : X.Bd N A 1 := by
  cases h with
  | Q =>
    refine ⟨hN, N, ?_, by omega⟩
    show (1 : Rat) = _
    rw [show (1 : Rat) = Rat.divInt 1 1 from rfl, Rat.divInt_eq_divInt_iff (by decide) (by omega)]
    omega
  | F p => exact hN
theorem fbd_add {X : Fld} (h : IsFld X) {N A A' : Nat} {x y : X.T} (hx : X.Bd N A x) (hy : X.Bd N A' y) : X.Bd N (A + A') (x + y) := by
  cases h with
  | Q =>
    obtain ⟨h1, a, rfl, h3⟩ := hx
    obtain ⟨_, b, rfl, h5⟩ := hy
    refine ⟨h1, a + b, ?_, by omega⟩
    have e : (N : Int) ≠ 0 := by omega
    show Rat.divInt a N + Rat.divInt b N = _
    rw [Rat.divInt_add_divInt _ _ e e, Rat.divInt_eq_divInt_iff (Int.mul_ne_zero e e) e]
    grind
  | F p => exact hx
theorem fbd_neg {X : Fld} (h : IsFld X) {N A : Nat} {x : X.T} (hx : X.Bd N A x) : X.Bd N A (-x) := by
  cases h with
  | Q =>
    obtain ⟨h1, a, rfl, h3⟩ := hx
    refine ⟨h1, -a, ?_, by omega⟩
    show -Rat.divInt a N = _
    rw [Rat.neg_divInt]
  | F p => exact hx
theorem fbd_mul {X : Fld} (h : IsFld X) {N A N' A' : Nat} {x y : X.T} (hx : X.Bd N A x) (hy : X.Bd N' A' y) : X.Bd (N * N') (A * A') (x * y) := by
  cases h with
  | Q =>
    obtain ⟨h1, a, rfl, h3⟩ := hx
    obtain ⟨h4, b, rfl, h5⟩ := hy
    refine ⟨Nat.mul_pos h1 h4, a * b, ?_, ?_⟩
    · show Rat.divInt a N * Rat.divInt b N' = _
      rw [Rat.divInt_mul_divInt]; push_cast; rfl
    · rw [Int.natAbs_mul]; exact Nat.mul_le_mul h3 h5
  | F p => exact Nat.mul_pos hx hy
theorem bdl_pos {X : Fld} (h : IsFld X) {N : Nat} : ∀ {A : Nat} {l : List X.T}, BdL X N A l → 0 < N
  | A, [], hl => hl
  | A, a :: l, ⟨_, _, _, h1, _⟩ => fbd_pos h h1
theorem bdl_mono {X : Fld} (h : IsFld X) {N : Nat} : ∀ {A A' : Nat} {l : List X.T}, A ≤ A' → BdL X N A l → BdL X N A' l
  | A, A', [], _, hl => hl
  | A, A', a :: l, hA, ⟨A1, A2, h1, h2, h3⟩ => ⟨A1, A2, by omega, h2, h3⟩
theorem bdl_trim {X : Fld} (h : IsFld X) {N : Nat} : ∀ {A : Nat} {l : List X.T}, BdL X N A l → BdL X N A (trim l)
  | A, [], hl => hl
  | A, a :: l, ⟨A1, A2, h1, h2, h3⟩ => by
    unfold trim
    split
    · exact fbd_pos h h2
    · exact ⟨A1, A2, h1, h2, bdl_trim h h3⟩
theorem bdl_add {X : Fld} (h : IsFld X) {N : Nat} : ∀ {A A' : Nat} {l m : List X.T}, BdL X N A l → BdL X N A' m → BdL X N (A + A') (addL l m)
  | A, A', [], m, hl, hm => bdl_mono h (by omega) hm
  | A, A', a :: l, [], hl, hm => bdl_mono h (by omega) hl
  | A, A', a :: l, b :: m, ⟨A1, A2, h1, h2, h3⟩, ⟨B1, B2, g1, g2, g3⟩ => ⟨A1 + B1, A2 + B2, by omega, fbd_add h h2 g2, bdl_add h h3 g3⟩
theorem bdl_scl {X : Fld} (h : IsFld X) {N A N' : Nat} {a : X.T} (ha : X.Bd N A a) : ∀ {A' : Nat} {l : List X.T}, BdL X N' A' l → BdL X (N * N') (A * A') (scl a l)
  | A', [], hl => Nat.mul_pos (fbd_pos h ha) hl
  | A', b :: l, ⟨A1, A2, h1, h2, h3⟩ => ⟨A * A1, A * A2, by rw [← Nat.mul_add]; exact Nat.mul_le_mul_left A h1, fbd_mul h ha h2, bdl_scl h ha h3⟩
theorem bdl_mul {X : Fld} (h : IsFld X) {N N' : Nat} : ∀ {A A' : Nat} {l m : List X.T}, BdL X N A l → BdL X N' A' m → BdL X (N * N') (A * A') (mulL l m)
  | A, A', [], m, hl, hm => Nat.mul_pos hl (bdl_pos h hm)
  | A, A', a :: l, m, ⟨A1, A2, h1, h2, h3⟩, hm => by
    rw [mulL]
    refine bdl_mono h (A := A1 * A' + (0 + A2 * A')) ?_ (bdl_add h (bdl_scl h h2 hm) ⟨0, A2 * A', by omega, fbd_zero h (Nat.mul_pos (fbd_pos h h2) (bdl_pos h hm)) 0, bdl_mul h h3 hm⟩)
    rw [Nat.zero_add, ← Nat.add_mul]
    exact Nat.mul_le_mul_right _ h1
theorem bdl_get {X : Fld} (h : IsFld X) {N : Nat} : ∀ {A : Nat} {l : List X.T}, BdL X N A l → ∀ i, X.Bd N A (cf l i)
  | A, [], hl, i => by rw [cf_nil]; exact fbd_zero h hl A
  | A, a :: l, ⟨A1, A2, h1, h2, h3⟩, 0 => by rw [cf_z]; exact fbd_mono h (by omega) h2
  | A, a :: l, ⟨A1, A2, h1, h2, h3⟩, i + 1 => by rw [cf_s]; exact fbd_mono h (by omega) (bdl_get h h3 i)
section
variable {X : Dom} (h : IsDom X) {l l' N N' A A' : Nat} {x y : X.T}
include h
theorem bd_pos (hx : X.Bd l N A x) : 0 < N := by
  cases h with
  | Z => exact hx.1
  | fld h => exact fbd_pos h hx
  | P h => exact bdl_pos h hx.2
theorem bd_mono (hl : l ≤ l') (hA : A ≤ A') (hx : X.Bd l N A x) : X.Bd l' N A' x := by
  cases h with
  | Z => exact ⟨hx.1, Nat.le_trans hx.2 hA⟩
  | fld h => exact fbd_mono h hA hx
  | P h => exact ⟨Nat.le_trans hx.1 hl, bdl_mono h hA hx.2⟩
theorem bd_zero (hN : 0 < N) (A : Nat) : X.Bd l N A 0 := by
  cases h with
  | Z => exact ⟨hN, Nat.zero_le _⟩
  | fld h => exact fbd_zero h hN A
  | @P Y h =>
    have e : (0 : Poly Y.T).c = [] := by
      refine nrm_ext (Poly.nrm _) (fun a ha => by simp at ha) fun k => ?_
      rw [Poly.zero_cf, cf_nil]
    refine ⟨?_, ?_⟩
    · show (0 : Poly Y.T).c.length ≤ _
      rw [e]; exact Nat.zero_le _
    · show BdL Y N A (0 : Poly Y.T).c
      rw [e]; exact hN
theorem bd_one (hN : 0 < N) (hA : N ≤ A) (hl : 1 ≤ l) : X.Bd l N A 1 := by
  cases h with
  | Z => exact ⟨hN, by show (1 : Int).natAbs ≤ A; omega⟩
  | fld h => exact fbd_one h hN hA
  | @P Y h => exact ⟨Nat.le_trans (trim_len [(1 : Y.T)]) hl, bdl_trim h ⟨A, 0, by omega, fbd_one h hN hA, hN⟩⟩
theorem bd_add (hx : X.Bd l N A x) (hy : X.Bd l N A' y) : X.Bd l N (A + A') (x + y) := by
  cases h with
  | Z => exact ⟨hx.1, Nat.le_trans (Int.natAbs_add_le _ _) (Nat.add_le_add hx.2 hy.2)⟩
  | fld h => exact fbd_add h hx hy
  | P h => exact ⟨Nat.le_trans (trim_len _) (by rw [addL_len]; exact Nat.max_le.mpr ⟨hx.1, hy.1⟩), bdl_trim h (bdl_add h hx.2 hy.2)⟩
theorem bd_mul (hx : X.Bd l N A x) (hy : X.Bd l' N' A' y) : X.Bd (l + l') (N * N') (A * A') (x * y) := by
  cases h with
  | Z => exact ⟨Nat.mul_pos hx.1 hy.1, by rw [show (x * y : zDom.T).natAbs = Int.natAbs x * Int.natAbs y from Int.natAbs_mul x y]; exact Nat.mul_le_mul hx.2 hy.2⟩
  | fld h => exact fbd_mul h hx hy
  | P h =>
    refine ⟨Nat.le_trans (trim_len _) ?_, bdl_trim h (bdl_mul h hx.2 hy.2)⟩
    have h1 := hx.1
    have h2 := hy.1
    by_cases e1 : x.c = []
    · rw [e1]; exact Nat.zero_le _
    · by_cases e2 : y.c = []
      · rw [e2]
        have : (mulL x.c []).length ≤ x.c.length := by
          clear e1 h1 hx
          generalize x.c = u
          induction u with
          | nil => exact Nat.le_refl _
          | cons a u ih => rw [mulL, addL_len]; simp [scl]; omega
        omega
      · rw [mulL_len _ _ e1 e2]; omega
end
end Lp
namespace Lp
open Lg
local macro_rules
  | `(tactic| bv_omega) => `(tactic| try simp only [exec, evs, evo, evc, evIt, asg, asgs, evt, e_non, e_bl, e_int, e_str, e_var, e_bin, e_neg, e_not, e_cmp, e_and, e_or, e_ite, e_call, e_prim, e_isi, e_ix, e_slice, e_tup, e_lst, e_comp, e_lrange, e_meth, e_chain, e_chain3,
      wn, wp_bind, wp_one, e_con, mo_index, e_ladd, madd_ss, e_fnv, e_rev, rev_tup, rev_scr, fn_int, fn_bl, fn_non, fn_str, fn_tup, fn_scr, fn_fro, fn_ref, sz_0, sz_1, sz_2, sz_3, sz_4, sz_5, sz_6, sz_7, sz_8, sz_9, sz_10, sz_11, sz_12, e_isi2, e_lrep, m_rep, e_glob, tb_len, tb_rng, tb_rng2, tb_enum, rd_tup0, rd_tup1, rd_tup2, rd_si, dq_tup, dq_tups, dq_nil, dq_sn, dq_ns, dq_si, dq_is, dq_st, dq_ts, dq_nt, dq_tn, dq_it, dq_ti, dq_ni, dq_in, snoc_get, snoc_set, snoc_len, n_bl, ty_listi, ty_lists, ty_listn, ty_listb, ty_listt, ty_listc, ty_listf, ty_listr, ty_tupc, ty_strc, ty_intc, ty_intt, ty_ints, ty_intn, ty_bools, ty_booln, ty_boolt, ty_boolc, ty_strb, dq_bl, c_isb, c_isnb, n_scr, n_ref,  wp_lift, wp_noexc, wp_ok, wp_exc, wp_bad, bind_ok, lift_ok, wp_ite, conj_bad, b_add, b_addT, b_addL, b_sub, b_mul, b_rep, b_fdiv, b_mod, pw_9, pw_12, pw_15, pw_18, pw_19, pw_20, pw_43, pw_45, b_shl, i_add, i_sub, i_mul, i_fdiv, i_mod, c_eq, c_ne, c_lt, c_le, c_gt, c_ge, c_is, c_isNot, p_len, p_abs, p_min2, p_max2, p_int, p_intb, p_tuple, p_list, p_sum, p_any, p_all,
      q_tup, q_scr, q_fro, l_scr, l_fro, q_ref, l_ref, x_int, t_bl, t_int, t_non, t_tup, t_scr, ty_int, ty_intb, ty_bool, ty_booli, ty_tup, ty_tupi, ty_tupn, ty_tups, ty_str, sl_fro, sl_scr, sl_tup, nl_t, nl_f, k_tup, k_scr, k_fro, k_ref, wipe, s_ref, m_app, ix_40, ix_41, ix_42, ix_43, mo_ref, gd_t, mo_bits, m_bits, at_0, at_1, at_2, at_3, at_last, Option.bind_some, Option.map_some, lit_0, lit_1, lit_2, lit_3, lit_4, lit_5, lit_6, implies_true, Int.zero_add, Int.toNat_natCast, at_nat, List.getElem?_map, rd_int, rd_non, rd_bl, rd_str, dq_int, dq_non, dq_str, n_non, n_int, n_tup, n_str, ty_stri, ty_strn, ty_strt, ty_tupb, t_ref, start,
      List.getElem?_cons_zero, List.getElem?_cons_succ, List.set_cons_zero, List.set_cons_succ, List.map_cons, List.map_nil, List.length_cons, List.length_nil, List.replicate, List.cons_append, List.nil_append, Nat.reduceAdd, Nat.reduceSub, Int.reduceEq, Int.reduceToNat, Int.reduceBEq, Nat.reduceBEq, beq_self_eq_true, Int.reduceBNe, D.bl.injEq, Int.reduceLT, Int.reduceLE, Int.reduceAdd, Int.reduceSub, Int.reduceNeg, String.reduceEq, Nat.reduceEqDiff, gc_self, gc_cell, not_true, not_false_iff, or_self, or_true, true_or, or_false, false_or, and_false, false_and, and_self, eq_self, decide_true, decide_false,
      decide_eq_true_eq, decide_eq_false_iff_not, beq_iff_eq, beq_eq_false_iff_ne, Bool.not_eq_true', Bool.not_eq_false', Bool.not_eq_eq_eq_not, bne_iff_ne, Bool.or_false, Bool.or_true, Bool.false_or, Bool.true_or, Bool.and_false, Bool.and_true, Bool.false_and, Bool.true_and, not_false_eq_true, not_true_eq_false, Bool.not_true, Bool.not_false, true_and, and_true, ne_eq, forall_const, if_true, if_false, true_implies, false_implies, reduceCtorEq, Bool.false_eq_true, Bool.true_eq_false])
local macro_rules
  | `(tactic| simp_wf) => `(tactic| (rw [wc]; bv_omega))
open Lean.Grind Al
section
variable {P : Pg} {sub : String → String → Option Bool} {k : Nat} {st : Store} {Q : D → Store → Prop} {Er : String → Store → Prop} {c : Cell} {r : Store} {n : Nat}
theorem poly_zero {Y : Fld} : (0 : Poly Y.T).c = [] := by
  refine nrm_ext (Poly.nrm _) (fun a ha => by simp at ha) fun k => ?_
  rw [Poly.zero_cf, cf_nil]
theorem fzero_enc_F {p : Nat} [NeZero p] : (pFld p).enc 0 = .int 0 := by
  show D.int ((0 : Fin p).val : Int) = _
  rw [Fin.val_zero]; rfl
theorem zero_f (h : P.fn "zero" = some Fn.f_zero) {X : Fld} (hX : IsFld X) : callF P sub (k + 1) "zero" [X.d] st = .ok (X.enc 0) st := by
  apply of_wp
  refine wcall h rfl ?_
  dsimp only [Fn.f_zero]
  cases hX with
  | Q =>
    simp only [qFld, Fd.enc]
    simp_wf
    simp_wf
    rfl
  | F p =>
    rw [fzero_enc_F]
    simp only [pFld, Fd.enc]
    simp_wf
    simp_wf
theorem zero_ok (h : P.fn "zero" = some Fn.f_zero) {X : Dom} (hX : IsDom X) : callF P sub (k + 1) "zero" [X.d] st = .ok (X.enc 0) st := by
  cases hX with
  | Z =>
    apply of_wp
    refine wcall h rfl ?_
    dsimp only [Fn.f_zero]
    simp only [zDom, Dm.enc]
    simp_wf
    simp_wf
    rfl
  | fld hX => exact zero_f h hX
  | @P Y hX =>
    apply of_wp
    refine wcall h rfl ?_
    dsimp only [Fn.f_zero]
    have e : (pDom Y).enc 0 = .tup [] := by
      show D.tup ((0 : Poly Y.T).c.map Y.enc) = _
      rw [poly_zero]; rfl
    rw [e]
    simp only [pDom]
    simp_wf
    simp_wf
theorem lzero_f (h : P.fn "_law_zero" = some Fn.f__law_zero) {X : Fld} (hX : IsFld X) : callF P sub (k + 1) "_law_zero" [X.d] st = .ok (X.enc 0) st := by
  apply of_wp
  refine wcall h rfl ?_
  dsimp only [Fn.f__law_zero]
  cases hX with
  | Q =>
    simp only [qFld, Fd.enc]
    simp_wf
    simp_wf
    rfl
  | F p =>
    rw [fzero_enc_F]
    simp only [pFld, Fd.enc]
    simp_wf
    simp_wf
    simp_wf
theorem lzero_ok (h : P.fn "_law_zero" = some Fn.f__law_zero) {X : Dom} (hX : IsDom X) : callF P sub (k + 1) "_law_zero" [X.d] st = .ok (X.enc 0) st := by
  cases hX with
  | Z =>
    apply of_wp
    refine wcall h rfl ?_
    dsimp only [Fn.f__law_zero]
    simp only [zDom, Dm.enc]
    simp_wf
    simp_wf
    simp_wf
    rfl
  | fld hX => exact lzero_f h hX
  | @P Y hX =>
    apply of_wp
    refine wcall h rfl ?_
    dsimp only [Fn.f__law_zero]
    have e : (pDom Y).enc 0 = .tup [] := by
      show D.tup ((0 : Poly Y.T).c.map Y.enc) = _
      rw [poly_zero]; rfl
    rw [e]
    simp only [pDom]
    simp_wf
    simp_wf
    simp_wf
/-! trimming -/
theorem cf_take {R : Type} [CommRing R] (l : List R) (m k : Nat) : cf (l.take m) k = if k < m then cf l k else 0 := by
  unfold cf
  rw [List.getElem?_take]
  split <;> simp_all
theorem trim_step {R : Type} [CommRing R] [DecidableEq R] {l : List R} {m : Nat} (h : cf l m = 0) : trim (l.take (m + 1)) = trim (l.take m) := by
  apply trim_ext
  intro k
  rw [cf_take, cf_take]
  by_cases e : k = m
  · subst e; simp [h]
  · by_cases e2 : k < m
    · rw [if_pos (by omega), if_pos e2]
    · rw [if_neg (by omega), if_neg e2]
theorem trim_stop {R : Type} [CommRing R] [DecidableEq R] {l : List R} {m : Nat} (hm : m < l.length) (h : cf l m ≠ 0) : trim (l.take (m + 1)) = l.take (m + 1) := by
  apply trim_of
  intro a ha
  rw [List.getLast?_eq_getElem?, List.length_take, Nat.min_eq_left (by omega), List.getElem?_take, if_pos (by omega)] at ha
  rw [← cf_some ha]; exact h
/-- what a function reads of a list -/
structure Rd (st : Store) (v : D) (xs : List D) : Prop where
  seq : seqOf st v = some xs
  sl : ∀ lo hi, sliced v lo hi st = .ok (.scr (cut xs lo hi)) st
theorem rd_scr' {st : Store} {xs : List D} : Rd st (.scr xs) xs := ⟨rfl, fun _ _ => rfl⟩
theorem rd_last {st : Store} {xs : List D} : Rd (st ++ [.lst xs]) (.ref st.length) xs := ⟨by simp [q_ref], fun _ _ => by simp [sliced, l_ref]⟩
theorem lstrip_ok (h : P.fn "_law_strip" = some Fn.f__law_strip) (hz : P.fn "_law_zero" = some Fn.f__law_zero) {X : Fld} (hX : IsFld X) {v : D} {l : List X.T} (hv : Rd st v (l.map X.enc)) :
    callF P sub (k + 2) "_law_strip" [X.d, v] st = .ok (.tup ((trim l).map X.enc)) st := by
  apply of_wp
  refine wcall h rfl ?_
  dsimp only [Fn.f__law_strip]
  simp_wf
  simp only [hv.seq]; bv_omega
  rw [wc]; simp only [exec]
  refine wwhile (fun m env s => st = s ∧ m ≤ l.length ∧ trim (l.take m) = trim l ∧ env = [some X.d, some v, some (.int m)]) ?_ _ _ _ ⟨rfl, Nat.le_refl _, by rw [List.take_length], by rw [List.length_map]⟩
  rintro m env s ⟨rfl, hm, ht, rfl⟩
  bv_omega
  refine ⟨fun h0 => ?_, fun h0 => ?_⟩
  · simp only [hv.seq]; bv_omega
    rw [at_get (by omega), List.getElem?_map, show ((m : Int) - 1).toNat = m - 1 by omega, List.getElem?_eq_getElem (show m - 1 < l.length by omega)]
    bv_omega
    simp only [lzero_f hz hX]; bv_omega
    simp only [frd hX, fdq hX]; bv_omega
    obtain ⟨q, rfl⟩ : ∃ q, m = q + 1 := ⟨m - 1, by omega⟩
    simp only [Nat.add_sub_cancel]
    have hq : cf l q = l[q] := cf_get (by omega)
    refine ⟨fun he => ?_, fun he => ?_⟩
    · simp_wf
      refine ⟨q, by omega, by omega, ?_, ?_⟩
      · rw [← trim_step (by rw [hq, he]), ht]
      · congr; omega
    · simp_wf
      simp only [hv.sl]; bv_omega
      rw [cut_to, ← List.map_take, ← ht, trim_stop (by omega) (by rw [hq]; exact he)]
  · refine ⟨fun z => absurd z h0, fun _ => ?_⟩
    have : m = 0 := by omega
    simp_wf
    simp only [hv.sl]; bv_omega
    rw [cut_to, ← List.map_take, ← ht, this]; rfl
theorem trimmed_ok (h : P.fn "trimmed" = some Fn.f_trimmed) (hz : P.fn "zero" = some Fn.f_zero) {X : Fld} (hX : IsFld X) {v : D} {l : List X.T} (hv : Rd st v (l.map X.enc)) :
    callF P sub (k + 2) "trimmed" [X.d, v] st = .ok (.tup ((trim l).map X.enc)) st := by
  apply of_wp
  refine wcall h rfl ?_
  dsimp only [Fn.f_trimmed]
  simp_wf
  simp only [hv.seq]; bv_omega
  rw [wc]; simp only [exec]
  refine wwhile (fun m env s => st = s ∧ m ≤ l.length ∧ trim (l.take m) = trim l ∧ env = [some X.d, some v, some (.int m)]) ?_ _ _ _ ⟨rfl, Nat.le_refl _, by rw [List.take_length], by rw [List.length_map]⟩
  rintro m env s ⟨rfl, hm, ht, rfl⟩
  bv_omega
  refine ⟨fun h0 => ?_, fun h0 => ?_⟩
  · simp only [hv.seq]; bv_omega
    rw [at_get (by omega), List.getElem?_map, show ((m : Int) - 1).toNat = m - 1 by omega, List.getElem?_eq_getElem (show m - 1 < l.length by omega)]
    bv_omega
    simp only [zero_f hz hX]; bv_omega
    simp only [frd hX, fdq hX]; bv_omega
    obtain ⟨q, rfl⟩ : ∃ q, m = q + 1 := ⟨m - 1, by omega⟩
    simp only [Nat.add_sub_cancel]
    have hq : cf l q = l[q] := cf_get (by omega)
    refine ⟨fun he => ?_, fun he => ?_⟩
    · simp_wf
      refine ⟨q, by omega, by omega, ?_, ?_⟩
      · rw [← trim_step (by rw [hq, he]), ht]
      · congr; omega
    · simp_wf
      simp only [hv.sl]; bv_omega
      rw [cut_to, ← List.map_take, ← ht, trim_stop (by omega) (by rw [hq]; exact he)]
  · refine ⟨fun z => absurd z h0, fun _ => ?_⟩
    have : m = 0 := by omega
    simp_wf
    simp only [hv.sl]; bv_omega
    rw [cut_to, ← List.map_take, ← ht, this]; rfl
end
end Lp
namespace Lp
open Lg
local macro_rules
  | `(tactic| bv_omega) => `(tactic| try simp only [exec, evs, evo, evc, evIt, asg, asgs, evt, e_non, e_bl, e_int, e_str, e_var, e_bin, e_neg, e_not, e_cmp, e_and, e_or, e_ite, e_call, e_prim, e_isi, e_ix, e_slice, e_tup, e_lst, e_comp, e_lrange, e_meth, e_chain, e_chain3,
      wn, wp_bind, wp_one, e_con, mo_index, e_ladd, madd_ss, e_fnv, e_rev, rev_tup, rev_scr, fn_int, fn_bl, fn_non, fn_str, fn_tup, fn_scr, fn_fro, fn_ref, sz_0, sz_1, sz_2, sz_3, sz_4, sz_5, sz_6, sz_7, sz_8, sz_9, sz_10, sz_11, sz_12, e_isi2, e_lrep, m_rep, e_glob, tb_len, tb_rng, tb_rng2, tb_enum, rd_tup0, rd_tup1, rd_tup2, rd_si, dq_tup, dq_tups, dq_nil, dq_sn, dq_ns, dq_si, dq_is, dq_st, dq_ts, dq_nt, dq_tn, dq_it, dq_ti, dq_ni, dq_in, snoc_get, snoc_set, snoc_len, n_bl, ty_listi, ty_lists, ty_listn, ty_listb, ty_listt, ty_listc, ty_listf, ty_listr, ty_tupc, ty_strc, ty_intc, ty_intt, ty_ints, ty_intn, ty_bools, ty_booln, ty_boolt, ty_boolc, ty_strb, dq_bl, c_isb, c_isnb, n_scr, n_ref,  wp_lift, wp_noexc, wp_ok, wp_exc, wp_bad, bind_ok, lift_ok, wp_ite, conj_bad, b_add, b_addT, b_addL, b_sub, b_mul, b_rep, b_fdiv, b_mod, pw_9, pw_12, pw_15, pw_18, pw_19, pw_20, pw_43, pw_45, b_shl, i_add, i_sub, i_mul, i_fdiv, i_mod, c_eq, c_ne, c_lt, c_le, c_gt, c_ge, c_is, c_isNot, p_len, p_abs, p_min2, p_max2, p_int, p_intb, p_tuple, p_list, p_sum, p_any, p_all,
      q_tup, q_scr, q_fro, l_scr, l_fro, q_ref, l_ref, x_int, t_bl, t_int, t_non, t_tup, t_scr, ty_int, ty_intb, ty_bool, ty_booli, ty_tup, ty_tupi, ty_tupn, ty_tups, ty_str, sl_fro, sl_scr, sl_tup, nl_t, nl_f, k_tup, k_scr, k_fro, k_ref, wipe, s_ref, m_app, ix_40, ix_41, ix_42, ix_43, mo_ref, gd_t, mo_bits, m_bits, at_0, at_1, at_2, at_3, at_last, Option.bind_some, Option.map_some, lit_0, lit_1, lit_2, lit_3, lit_4, lit_5, lit_6, implies_true, Int.zero_add, Int.toNat_natCast, at_nat, List.getElem?_map, rd_int, rd_non, rd_bl, rd_str, dq_int, dq_non, dq_str, n_non, n_int, n_tup, n_str, ty_stri, ty_strn, ty_strt, ty_tupb, t_ref, start,
      List.getElem?_cons_zero, List.getElem?_cons_succ, List.set_cons_zero, List.set_cons_succ, List.map_cons, List.map_nil, List.length_cons, List.length_nil, List.replicate, List.cons_append, List.nil_append, Nat.reduceAdd, Nat.reduceSub, Int.reduceEq, Int.reduceToNat, Int.reduceBEq, Nat.reduceBEq, beq_self_eq_true, Int.reduceBNe, D.bl.injEq, Int.reduceLT, Int.reduceLE, Int.reduceAdd, Int.reduceSub, Int.reduceNeg, String.reduceEq, Nat.reduceEqDiff, gc_self, gc_cell, not_true, not_false_iff, or_self, or_true, true_or, or_false, false_or, and_false, false_and, and_self, eq_self, decide_true, decide_false,
      decide_eq_true_eq, decide_eq_false_iff_not, beq_iff_eq, beq_eq_false_iff_ne, Bool.not_eq_true', Bool.not_eq_false', Bool.not_eq_eq_eq_not, bne_iff_ne, Bool.or_false, Bool.or_true, Bool.false_or, Bool.true_or, Bool.and_false, Bool.and_true, Bool.false_and, Bool.true_and, not_false_eq_true, not_true_eq_false, Bool.not_true, Bool.not_false, true_and, and_true, ne_eq, forall_const, if_true, if_false, true_implies, false_implies, reduceCtorEq, Bool.false_eq_true, Bool.true_eq_false])
local macro_rules
  | `(tactic| simp_wf) => `(tactic| (rw [wc]; bv_omega))
open Lean.Grind Al
theorem frac_eq {n d : Int} (h : d ≠ 0) : frac n d = ((Rat.divInt n d).num, ((Rat.divInt n d).den : Int)) := by
  have g : (0 : Int) < (Int.gcd n d : Nat) := by exact_mod_cast Int.gcd_pos_of_ne_zero_right n h
  have dn : ((Int.gcd n d : Nat) : Int) ∣ n := Int.gcd_dvd_left _ _
  have dd : ((Int.gcd n d : Nat) : Int) ∣ d := Int.gcd_dvd_right _ _
  rw [Rat.num_divInt, Rat.den_divInt, if_neg h, Int.gcd_comm d n]
  obtain ⟨a, ha⟩ := dn
  obtain ⟨b, hb⟩ := dd
  unfold frac
  generalize Int.gcd n d = z at *
  subst ha
  subst hb
  have e0 : (z : Int) ≠ 0 := by omega
  have hz : 0 < z := by omega
  have en : ((z : Int) * b).natAbs / z = b.natAbs := by
    rw [Int.natAbs_mul, Int.natAbs_natCast, Nat.mul_div_cancel_left _ hz]
  rw [en]
  by_cases hn : (z : Int) * b < 0
  · have hb : b < 0 := by
      apply Classical.byContradiction
      intro hc
      have := Int.mul_nonneg (show (0 : Int) ≤ z by omega) (show 0 ≤ b by omega)
      omega
    rw [if_pos hn, Int.sign_eq_neg_one_of_neg hn, show (z : Int) * a = -z * -a by grind, show (z : Int) * b = -z * -b by grind, Int.mul_fdiv_cancel_left _ (by omega), Int.mul_fdiv_cancel_left _ (by omega),
      show (-1 : Int) * (-z * -a) = z * (-a) by grind, Int.mul_ediv_cancel_left _ e0]
    congr 1; omega
  · have hb : 0 ≤ b := by
      apply Classical.byContradiction
      intro hc
      have := Int.mul_pos (show (0 : Int) < z by omega) (show 0 < -b by omega)
      have e : (z : Int) * -b = -(z * b) := by grind
      omega
    have hb2 : 0 < (z : Int) * b := by omega
    rw [if_neg hn, Int.sign_eq_one_of_pos hb2, Int.mul_fdiv_cancel_left _ e0, Int.mul_fdiv_cancel_left _ e0, Int.one_mul, Int.mul_ediv_cancel_left _ e0]
    congr 1; omega
section
variable {P : Pg} {sub : String → String → Option Bool} {k : Nat} {st : Store} {Q : D → Store → Prop} {Er : String → Store → Prop} {c : Cell} {r : Store} {n : Nat}
theorem wshape (hs : P.fn "_law_shape" = some Fn.f__law_shape) (h : HasTank P) (hT : Tank c n) (hn : n < 2 ^ 59) (q : ∀ (m : Nat) c', m ≤ 4 → Tank c' (n + 3) → Q (.int m) (c' :: r)) : wp (callF P sub (k + 3) "_law_shape" [.ref 0] (c :: r)) Q Er := by
  refine wp_mono (Q := fun d s => ∃ (m : Nat) (c' : Cell), m ≤ 4 ∧ Tank c' (n + 3) ∧ d = .int m ∧ s = c' :: r) (E := NE) ?_ ?_ (fun _ _ z => z.elim)
  · refine wcall hs rfl ?_
    dsimp only [Fn.f__law_shape]
    simp_wf
    refine wtake h hT (by omega) (by omega) (by omega) fun v c' h0 h1 hT' => ?_
    bv_omega
    refine wtake h hT' (by omega) (by omega) (by omega) fun v2 c' h2 h3 hT' => ?_
    bv_omega
    refine wtake h hT' (by omega) (by omega) (by omega) fun v3 c' h4 h5 hT' => ?_
    bv_omega
    have e : v3 = 0 ∨ v3 = 1 ∨ v3 = 2 ∨ v3 = 3 ∨ v3 = 4 ∨ v3 = 5 := by omega
    have fin : ∀ x : Int, 0 ≤ x → x ≤ 4 → ∃ (m : Nat) (c'' : Cell), m ≤ 4 ∧ Tank c'' (n + 3) ∧ D.int x = .int m ∧ gc (c :: r) (c' :: r) (.int x) = c'' :: r := fun x g1 g2 =>
      ⟨x.toNat, c', by omega, hT', by congr; omega, gc_cell⟩
    rcases e with rfl | rfl | rfl | rfl | rfl | rfl
    · exact fin v h0 (by omega)
    · exact fin (1 + v2) (by omega) (by omega)
    · exact fin 0 (by omega) (by omega)
    · exact fin 1 (by omega) (by omega)
    · exact fin 2 (by omega) (by omega)
    · exact fin 3 (by omega) (by omega)
  · rintro d s ⟨p, c', h1, h2, rfl, rfl⟩
    exact q p c' h1 h2
/-- fractions -/
theorem qenc {n d : Int} (h : d ≠ 0) : D.tup [.int (frac n d).1, .int (frac n d).2] = qFld.enc (Rat.divInt n d) := by
  rw [frac_eq h]; rfl
/-- a number below p -/
theorem penc {p : Nat} [NeZero p] {x : Int} (h0 : 0 ≤ x) (h1 : x < p) : ∃ y : Fin p, D.int x = (pFld p).enc y :=
  ⟨⟨x.toNat, by omega⟩, by show D.int x = D.int _; congr; simp; omega⟩
theorem wsmall_f (hs : P.fn "_law_small" = some Fn.f__law_small) (h : HasLaw P) {X : Fld} (hX : IsFld X) (hT : Tank c n) (hn : n < 2 ^ 59) (q : ∀ (x : X.T) c', X.Bd 6 24 x → Tank c' (n + 2) → Q (X.enc x) (c' :: r)) :
    wp (callF P sub (k + 3) "_law_small" [.ref 0, X.d] (c :: r)) Q Er := by
  refine wp_mono (Q := fun d s => ∃ (x : X.T) (c' : Cell), X.Bd 6 24 x ∧ Tank c' (n + 2) ∧ d = X.enc x ∧ s = c' :: r) (E := NE) ?_ ?_ (fun _ _ z => z.elim)
  · refine wcall hs rfl ?_
    dsimp only [Fn.f__law_small]
    cases hX with
    | Q =>
      simp only [qFld, Fd.enc]
      simp_wf
      simp_wf
      simp_wf
      refine wtake h.toHasTank hT (by omega) (by omega) (by omega) fun v c' h0 h1 hT' => ?_
      bv_omega
      refine wtake h.toHasTank hT' (by omega) (by omega) (by omega) fun v2 c' h2 h3 hT' => ?_
      bv_omega
      rw [law_fraction_ok h.fraction h.common _ _ (by omega) (by omega), wp_ok]
      refine ⟨Rat.divInt (v - 4) (1 + v2), c', ⟨by decide, (v - 4) * (if v2 = 0 then 6 else if v2 = 1 then 3 else 2), ?_, ?_⟩, hT', qenc (by omega), gc_cell⟩
      · rw [Rat.divInt_eq_divInt_iff (by omega) (by decide)]
        have e : v2 = 0 ∨ v2 = 1 ∨ v2 = 2 := by omega
        rcases e with rfl | rfl | rfl <;> simp <;> omega
      · have e : v2 = 0 ∨ v2 = 1 ∨ v2 = 2 := by omega
        rcases e with rfl | rfl | rfl <;> simp <;> omega
    | F p hp hp2 =>
      have := hp.1
      simp only [pFld, Fd.enc]
      simp_wf
      simp_wf
      refine wtake h.toHasTank hT (by omega) (by omega) (by omega) fun v c' h0 h1 hT' => ?_
      bv_omega
      have hf := fmod_pos (x := v) (y := (p : Int)) (by omega)
      obtain ⟨y, hy⟩ := penc (p := p) hf.1 hf.2
      refine ⟨by omega, y, c', by show 0 < 6; decide, hT'.mono (by omega), hy, rfl⟩
  · rintro d s ⟨x, c', h1, h2, rfl, rfl⟩
    exact q x c' h1 h2
theorem bdl_snoc {X : Fld} (hX : IsFld X) {N : Nat} : ∀ {A A' : Nat} {l : List X.T} {a : X.T}, BdL X N A l → X.Bd N A' a → BdL X N (A + A') (l ++ [a])
  | A, A', [], a, hl, ha => ⟨A', 0, by omega, ha, hl⟩
  | A, A', b :: l, a, ⟨A1, A2, h1, h2, h3⟩, ha => ⟨A1, A2 + A', by omega, h2, bdl_snoc hX h3 ha⟩
theorem wsmall (hs : P.fn "_law_small" = some Fn.f__law_small) (h : HasLaw P) {X : Dom} (hX : IsDom X) (hT : Tank c n) (hn : n < 2 ^ 58) (q : ∀ (x : X.T) c', X.Bd 2 6 600 x → Tank c' (n + 5) → Q (X.enc x) (c' :: r)) :
    wp (callF P sub (k + 4) "_law_small" [.ref 0, X.d] (c :: r)) Q Er := by
  refine wp_mono (Q := fun d s => ∃ (x : X.T) (c' : Cell), X.Bd 2 6 600 x ∧ Tank c' (n + 5) ∧ d = X.enc x ∧ s = c' :: r) (E := NE) ?_ ?_ (fun _ _ z => z.elim)
  · cases hX with
    | fld hX =>
      exact wsmall_f hs h hX hT (by omega) fun x c' hx hT' => ⟨x, c', fbd_mono hX (by omega) hx, hT'.mono (by omega), rfl, rfl⟩
    | Z =>
      refine wcall hs rfl ?_
      dsimp only [Fn.f__law_small]
      simp only [zDom, Dm.enc]
      simp_wf
      simp_wf
      simp_wf
      simp_wf
      refine wtake h.toHasTank hT (by omega) (by omega) (by omega) fun v c' h0 h1 hT' => ?_
      bv_omega
      refine wtake h.toHasTank hT' (by omega) (by omega) (by omega) fun v2 c' h2 h3 hT' => ?_
      bv_omega
      refine wtake h.toHasTank hT' (by omega) (by omega) (by omega) fun v3 c' h4 h5 hT' => ?_
      bv_omega
      have fin : ∀ x : Int, x.natAbs ≤ 49 → ∃ (y : Int) (c'' : Cell), (0 < 6 ∧ y.natAbs ≤ 600) ∧ Tank c'' (n + 5) ∧ D.int x = .int y ∧ gc (c :: r) (c' :: r) (.int x) = c'' :: r := fun x g =>
        ⟨x, c', ⟨by decide, by omega⟩, hT'.mono (by omega), rfl, gc_cell⟩
      have e : v3 = 0 ∨ v3 = 1 ∨ v3 = 2 ∨ v3 = 3 ∨ v3 = 4 := by omega
      rcases e with rfl | rfl | rfl | rfl | rfl
      · exact fin (v - 4) (by omega)
      · exact fin 0 (by omega)
      · exact fin 0 (by omega)
      · exact fin 1 (by omega)
      · exact fin (v2 - 49) (by omega)
    | @P Y hX =>
      refine wcall hs rfl ?_
      dsimp only [Fn.f__law_small]
      simp only [pDom]
      simp_wf
      simp_wf
      simp_wf
      simp_wf
      refine wtake h.toHasTank hT (by omega) (by omega) (by omega) fun v c' h0 h1 hT' => ?_
      bv_omega
      refine ⟨rng_fine (by omega) (by omega) (by omega) (by omega), ?_⟩
      refine wcompN (fun i acc s => ∃ (l : List Y.T) (c' : Cell), acc = l.map Y.enc ∧ BdL Y 6 (24 * i) l ∧ Tank c' (n + 1 + 2 * i) ∧ s = c' :: r) (Nat.le_trans (show v.toNat ≤ 3 by omega) (by decide)) (fun i acc s hi hl hI => ?_) (fun acc s hl hI => ?_) _ ⟨[], c', rfl, (by decide : 0 < 6), hT', rfl⟩
      · obtain ⟨l, c', rfl, hb, hT', rfl⟩ := hI
        bv_omega
        refine wsmall_f hs h hX hT' (by omega) fun x c'' hx hT'' => ?_
        bv_omega
        exact ⟨_, rfl, l ++ [x], c'', by simp, bdl_mono hX (by omega) (bdl_snoc hX hb hx), hT''.mono (by omega), rfl⟩
      · obtain ⟨l, c', rfl, hb, hT', rfl⟩ := hI
        rw [List.length_map] at hl
        bv_omega
        rw [lstrip_ok h.strip h.zero hX rd_scr', wp_ok]
        refine ⟨Poly.of l, c', ⟨Nat.le_trans (trim_len _) (by omega), bdl_mono hX (by omega) (bdl_trim hX hb)⟩, hT'.mono (by omega), rfl, gc_cell⟩
  · rintro d s ⟨x, c', h1, h2, rfl, rfl⟩
    exact q x c' h1 h2
end
/-! ### matrices -/
def encR (X : Dom) (n : Nat) (a : Nat → X.T) : D := .tup (tb n fun j => X.enc (a j))
def encM (X : Dom) (m n : Nat) (a : Nat → Nat → X.T) : D := .tup [.int m, .int n, .tup (tb m fun i => encR X n (a i))]
section
variable {P : Pg} {sub : String → String → Option Bool} {k : Nat} {st : Store} {Q : D → Store → Prop} {Er : String → Store → Prop} {c : Cell} {r : Store} {n : Nat}
theorem q_M {X : Dom} {m n : Nat} {a : Nat → Nat → X.T} : seqOf st (encM X m n a) = some [.int m, .int n, .tup (tb m fun i => encR X n (a i))] := rfl
theorem q_R {X : Dom} {n : Nat} {a : Nat → X.T} : seqOf st (encR X n a) = some (tb n fun j => X.enc (a j)) := rfl
theorem l_M {X : Dom} {m n : Nat} {a : Nat → Nat → X.T} : listOf st (encM X m n a) = none := rfl
theorem n_M {X : Dom} {m n : Nat} {a : Nat → Nat → X.T} : isNon (encM X m n a) = false := rfl
theorem fn_M {X : Dom} {m n : Nat} {a : Nat → Nat → X.T} : noTy st (encM X m n a) = false := rfl
theorem ty_M {X : Dom} {m n : Nat} {a : Nat → Nat → X.T} : isTy st .tuple (encM X m n a) = true := rfl
theorem ty_ML {X : Dom} {m n : Nat} {a : Nat → Nat → X.T} : isTy st .list (encM X m n a) = false := rfl
theorem list_tb {X : Dom} {n : Nat} {l : List X.T} (hl : l.length = n) : l.map X.enc = tb n fun j => X.enc (cf l j) :=
  tb_ext (by simp [hl]) fun i hi => by rw [List.getElem?_map, List.getElem?_eq_getElem (by omega), cf_get (by omega)]; rfl
theorem wmatrix (hs : P.fn "_law_matrix" = some Fn.f__law_matrix) (hsm : P.fn "_law_small" = some Fn.f__law_small) (h : HasLaw P) {X : Dom} (hX : IsDom X) (hT : Tank c n) (hn : n < 2 ^ 57) {m q' : Nat} (hm : m ≤ 10) (hq : q' ≤ 10)
    (q : ∀ (a : Nat → Nat → X.T) c', (∀ i j, X.Bd 2 6 600 (a i j)) → Tank c' (n + 500) → Q (encM X m q' a) (c' :: r)) :
    wp (callF P sub (k + 5) "_law_matrix" [.ref 0, X.d, .int m, .int q'] (c :: r)) Q Er := by
  refine wp_mono (Q := fun d s => ∃ (a : Nat → Nat → X.T) (c' : Cell), (∀ i j, X.Bd 2 6 600 (a i j)) ∧ Tank c' (n + 500) ∧ d = encM X m q' a ∧ s = c' :: r) (E := NE) ?_ ?_ (fun _ _ z => z.elim)
  · refine wcall hs rfl ?_
    dsimp only [Fn.f__law_matrix]
    simp_wf
    refine ⟨rng_fine (by omega) (by omega) (by omega) (by omega), ?_⟩
    refine wcompN (fun i acc s => ∃ (a : Nat → Nat → X.T) (c' : Cell), acc = (tb i fun i => encR X q' (a i)) ∧ (∀ i j, X.Bd 2 6 600 (a i j)) ∧ Tank c' (n + 50 * i) ∧ s = c' :: r) (Nat.le_trans hm (by decide)) (fun i acc s hi hl hI => ?_) (fun acc s hl hI => ?_) _ ⟨fun _ _ => 0, c, rfl, fun _ _ => bd_zero hX (by decide) _, hT, rfl⟩
    · obtain ⟨a, c', rfl, hb, hT', rfl⟩ := hI
      bv_omega
      refine ⟨rng_fine (by omega) (by omega) (by omega) (by omega), ?_⟩
      refine wcompN (fun j acc s => ∃ (l : List X.T) (c' : Cell), acc = l.map X.enc ∧ (∀ x ∈ l, X.Bd 2 6 600 x) ∧ Tank c' (n + 50 * i + 5 * j) ∧ s = c' :: r) (Nat.le_trans hq (by decide)) (fun j acc s hj hl hI => ?_) (fun acc s hl hI => ?_) _ ⟨[], c', rfl, by simp, hT', rfl⟩
      · obtain ⟨l, c', rfl, hb, hT', rfl⟩ := hI
        bv_omega
        refine wsmall hsm h hX hT' (by omega) fun x c'' hx hT'' => ?_
        bv_omega
        refine ⟨_, rfl, l ++ [x], c'', by simp, fun y hy => ?_, hT''.mono (by omega), rfl⟩
        rcases List.mem_append.mp hy with hy | hy
        · exact hb y hy
        · rw [List.mem_singleton] at hy; rw [hy]; exact hx
      · obtain ⟨l, c', rfl, hb2, hT', rfl⟩ := hI
        rw [List.length_map] at hl
        bv_omega
        refine ⟨_, rfl, fun i' => if i' < i then a i' else cf l, c', ?_, fun i' j => ?_, hT'.mono (by omega), rfl⟩
        · rw [tb_succ]
          congr 1
          · exact tb_congr fun z hz => by simp only [if_pos hz]
          · simp only [Nat.lt_irrefl, if_false, encR, list_tb hl]
        · by_cases e : i' < i
          · simp only [if_pos e]; exact hb i' j
          · simp only [if_neg e]
            unfold cf
            cases e2 : l[j]? with
            | none => exact bd_zero hX (by decide) _
            | some x => exact hb2 x (List.mem_of_getElem? e2)
    · obtain ⟨a, c', rfl, hb, hT', rfl⟩ := hI
      bv_omega
      exact ⟨a, c', hb, hT'.mono (by omega), rfl, rfl⟩
  · rintro d s ⟨x, c', h1, h2, rfl, rfl⟩
    exact q x c' h1 h2
end
end Lp
-- pre3
namespace Lp
open Lg
local macro_rules
  | `(tactic| bv_omega) => `(tactic| try simp only [exec, evs, evo, evc, evIt, asg, asgs, evt, e_non, e_bl, e_int, e_str, e_var, e_bin, e_neg, e_not, e_cmp, e_and, e_or, e_ite, e_call, e_prim, e_isi, e_ix, e_slice, e_tup, e_lst, e_comp, e_lrange, e_meth, e_chain, e_chain3,
      wn, wp_bind, wp_one, fn_M, q_M, q_R, n_M, ty_M, ty_ML, l_M, e_con, mo_index, e_ladd, madd_ss, e_fnv, e_rev, rev_tup, rev_scr, fn_int, fn_bl, fn_non, fn_str, fn_tup, fn_scr, fn_fro, fn_ref, sz_0, sz_1, sz_2, sz_3, sz_4, sz_5, sz_6, sz_7, sz_8, sz_9, sz_10, sz_11, sz_12, e_isi2, e_lrep, m_rep, e_glob, tb_len, tb_rng, tb_rng2, tb_enum, rd_tup0, rd_tup1, rd_tup2, rd_si, dq_tup, dq_tups, dq_nil, dq_sn, dq_ns, dq_si, dq_is, dq_st, dq_ts, dq_nt, dq_tn, dq_it, dq_ti, dq_ni, dq_in, snoc_get, snoc_set, snoc_len, n_bl, ty_listi, ty_lists, ty_listn, ty_listb, ty_listt, ty_listc, ty_listf, ty_listr, ty_tupc, ty_strc, ty_intc, ty_intt, ty_ints, ty_intn, ty_bools, ty_booln, ty_boolt, ty_boolc, ty_strb, dq_bl, c_isb, c_isnb, n_scr, n_ref,  wp_lift, wp_noexc, wp_ok, wp_exc, wp_bad, bind_ok, lift_ok, wp_ite, conj_bad, b_add, b_addT, b_addL, b_sub, b_mul, b_rep, b_fdiv, b_mod, pw_9, pw_12, pw_15, pw_18, pw_19, pw_20, pw_43, pw_45, b_shl, i_add, i_sub, i_mul, i_fdiv, i_mod, c_eq, c_ne, c_lt, c_le, c_gt, c_ge, c_is, c_isNot, p_len, p_abs, p_min2, p_max2, p_int, p_intb, p_tuple, p_list, p_sum, p_any, p_all,
      q_tup, q_scr, q_fro, l_scr, l_fro, q_ref, l_ref, x_int, t_bl, t_int, t_non, t_tup, t_scr, ty_int, ty_intb, ty_bool, ty_booli, ty_tup, ty_tupi, ty_tupn, ty_tups, ty_str, sl_fro, sl_scr, sl_tup, nl_t, nl_f, k_tup, k_scr, k_fro, k_ref, wipe, s_ref, m_app, ix_40, ix_41, ix_42, ix_43, mo_ref, gd_t, mo_bits, m_bits, at_0, at_1, at_2, at_3, at_last, Option.bind_some, Option.map_some, lit_0, lit_1, lit_2, lit_3, lit_4, lit_5, lit_6, implies_true, Int.zero_add, Int.toNat_natCast, at_nat, List.getElem?_map, rd_int, rd_non, rd_bl, rd_str, dq_int, dq_non, dq_str, n_non, n_int, n_tup, n_str, ty_stri, ty_strn, ty_strt, ty_tupb, t_ref, start,
      List.getElem?_cons_zero, List.getElem?_cons_succ, List.set_cons_zero, List.set_cons_succ, List.map_cons, List.map_nil, List.length_cons, List.length_nil, List.replicate, List.cons_append, List.nil_append, Nat.reduceAdd, Nat.reduceSub, Int.reduceEq, Int.reduceToNat, Int.reduceBEq, Nat.reduceBEq, beq_self_eq_true, Int.reduceBNe, D.bl.injEq, Int.reduceLT, Int.reduceLE, Int.reduceAdd, Int.reduceSub, Int.reduceNeg, String.reduceEq, Nat.reduceEqDiff, gc_self, gc_cell, not_true, not_false_iff, or_self, or_true, true_or, or_false, false_or, and_false, false_and, and_self, eq_self, decide_true, decide_false,
      decide_eq_true_eq, decide_eq_false_iff_not, beq_iff_eq, beq_eq_false_iff_ne, Bool.not_eq_true', Bool.not_eq_false', Bool.not_eq_eq_eq_not, bne_iff_ne, Bool.or_false, Bool.or_true, Bool.false_or, Bool.true_or, Bool.and_false, Bool.and_true, Bool.false_and, Bool.true_and, not_false_eq_true, not_true_eq_false, Bool.not_true, Bool.not_false, true_and, and_true, ne_eq, forall_const, if_true, if_false, true_implies, false_implies, reduceCtorEq, Bool.false_eq_true, Bool.true_eq_false])
local macro_rules
  | `(tactic| simp_wf) => `(tactic| (rw [wc]; bv_omega))
open Lean.Grind Al
section
variable {P : Pg} {sub : String → String → Option Bool} {k : Nat} {st : Store} {Q : D → Store → Prop} {Er : String → Store → Prop} {c : Cell} {r : Store} {X : Dom}
theorem need_shape_ok (h : P.fn "need_shape" = some Fn.f_need_shape) : callF P sub (k + 1) "need_shape" [.bl true] st = .ok .non st := by
  apply of_wp
  refine wcall h rfl ?_
  dsimp only [Fn.f_need_shape]
  simp_wf
theorem exc_wp {α : Type} {r : Out α} {c : String} {st : Store} (h : wp r (fun _ _ => False) (fun c' s => c' = c ∧ s = st)) : r = .exc c st := by
  cases r with
  | ok x s => exact h.elim
  | exc c' s => obtain ⟨h1, h2⟩ := h; rw [h1, h2]
  | bad => exact h.elim
def szd : Nat → D → Prop
  | n + 1, .tup xs => xs.length ≤ 100000 ∧ ∀ x ∈ xs, szd n x
  | n + 1, .scr xs => xs.length ≤ 100000 ∧ ∀ x ∈ xs, szd n x
  | _, _ => True
theorem bools_T {n : Nat} : bools (tb n fun _ => D.bl true) = some (List.replicate n true) := by
  rw [← tb_rep, ← List.map_replicate, bools_map]
theorem all_T {n : Nat} : (List.replicate n true).all id = true := by
  rw [List.all_eq_true]
  intro x hx
  rw [(List.mem_replicate.mp hx).2]; rfl
theorem same_ok (h : P.fn "_law_same" = some Fn.f__law_same) : ∀ (n : Nat) {k : Nat} {st : Store} {x : D}, n ≤ 30 → pl n x = true → szd n x → callF P sub (k + n + 1) "_law_same" [x, x] st = .ok (.bl true) st := by
  intro n
  have lst : ∀ {n k : Nat} {st : Store} {xs : List D} {a b : Option D} {v : D} (hv : seqOf st v = some xs) (ih : ∀ x ∈ xs, callF P sub (k + n) "_law_same" [x, x] st = .ok (.bl true) st) (hl : xs.length ≤ 100000),
      wp (compL [] (fun x st2 => (asg ⟨P.gl, callF P sub (k + n), P.ci⟩ (.nm 2) x (wipe [some v, some v, none] [2]) st2).bind fun env3 st3 => (evc ⟨P.gl, callF P sub (k + n), P.ci⟩ .none env3 st3).bind fun b st4 =>
        if b then (ev ⟨P.gl, callF P sub (k + n), P.ci⟩ (.call "_law_same" (.cons (.ix (.var 0) (.var 2)) (.cons (.ix (.var 1) (.var 2)) .nil))) env3 st4).bind fun y st5 => .ok (some y) st5 else .ok none st4) (tb xs.length fun i => .int (i : Nat)) [] st) (fun ys s => ys = (tb xs.length fun _ => .bl true) ∧ s = st) NE := by
    intro n k st xs a b v hv ih hl
    refine wmapN (f := fun _ => .bl true) rfl (Nat.le_trans hl (by decide)) (fun i hi => ?_) ⟨rfl, rfl⟩
    bv_omega
    rw [hv]; bv_omega
    rw [List.getElem?_eq_getElem hi]; bv_omega
    rw [hv]; bv_omega
    rw [List.getElem?_eq_getElem hi]; bv_omega
    rw [ih _ (List.getElem_mem hi)]; bv_omega
  induction n with
  | zero =>
    intro k st x _ hp _
    apply of_wp
    refine wcall h rfl ?_
    dsimp only [Fn.f__law_same]
    cases x with
    | non =>
      simp_wf
      simp_wf
    | int i =>
      simp_wf
      simp_wf
      simp_wf
      simp_wf
    | str s =>
      simp_wf
      simp_wf
      simp_wf
      simp_wf
    | _ => simp [pl] at hp
  | succ n ih =>
    intro k st x hn hp hs
    cases x with
    | tup xs =>
      simp only [pl, pls_mem] at hp
      obtain ⟨hs1, hs2⟩ := hs
      apply of_wp
      refine wcall h rfl ?_
      dsimp only [Fn.f__law_same]
      simp_wf
      simp_wf
      simp_wf
      simp_wf
      refine ⟨rng_fine (by omega) (by omega) (by omega) (by omega), ?_⟩
      refine wp_imp (lst (n := n + 1) (k := k) (v := .tup xs) (a := none) (b := none) rfl (fun x hx => ih (by omega) (hp x hx) (hs2 x hx)) hs1) ?_
      rintro ys s ⟨rfl, rfl⟩
      bv_omega
      rw [bools_T]
      bv_omega
      rw [all_T]
    | scr xs =>
      simp only [pl, pls_mem] at hp
      obtain ⟨hs1, hs2⟩ := hs
      apply of_wp
      refine wcall h rfl ?_
      dsimp only [Fn.f__law_same]
      simp_wf
      simp_wf
      simp_wf
      simp_wf
      refine ⟨rng_fine (by omega) (by omega) (by omega) (by omega), ?_⟩
      refine wp_imp (lst (n := n + 1) (k := k) (v := .scr xs) (a := none) (b := none) rfl (fun x hx => ih (by omega) (hp x hx) (hs2 x hx)) hs1) ?_
      rintro ys s ⟨rfl, rfl⟩
      bv_omega
      rw [bools_T]
      bv_omega
      rw [all_T]
    | non =>
      apply of_wp
      refine wcall h rfl ?_
      dsimp only [Fn.f__law_same]
      simp_wf
      simp_wf
    | int i =>
      apply of_wp
      refine wcall h rfl ?_
      dsimp only [Fn.f__law_same]
      simp_wf
      simp_wf
      simp_wf
      simp_wf
    | str s =>
      apply of_wp
      refine wcall h rfl ?_
      dsimp only [Fn.f__law_same]
      simp_wf
      simp_wf
      simp_wf
      simp_wf
    | _ => simp [pl] at hp
theorem pl_noRef : ∀ {n : Nat} {x : D}, pl n x = true → noRef x = true := by
  have lst : ∀ {xs : List D}, (∀ x ∈ xs, noRef x = true) → noRefs xs = true := by
    intro xs
    induction xs with
    | nil => intro _; rfl
    | cons x xs ih => intro h; simp only [noRefs, Bool.and_eq_true]; exact ⟨h x List.mem_cons_self, ih fun y hy => h y (List.mem_cons_of_mem _ hy)⟩
  intro n
  induction n with
  | zero => intro x h; cases x <;> simp_all [pl, noRef]
  | succ n ih =>
    intro x h
    cases x with
    | tup xs => simp only [pl, pls_mem] at h; simp only [noRef]; exact lst fun y hy => ih (h y hy)
    | scr xs => simp only [pl, pls_mem] at h; simp only [noRef]; exact lst fun y hy => ih (h y hy)
    | _ => simp_all [pl, noRef]
theorem pl_row {n : Nat} {xs : List D} (h : ∀ x ∈ xs, pl n x = true) : pl (n + 1) (.tup xs) = true := by
  simp only [pl, pls_mem]; exact h
theorem pl_three {n : Nat} {x y z : D} (hx : pl n x = true) (hy : pl n y = true) (hz : pl n z = true) : pl (n + 1) (.tup [x, y, z]) = true := by
  simp only [pl, pls, hx, hy, hz, Bool.and_self]
theorem b_repT {xs : List D} {j : Int} {st : Store} : bop .mul (.tup xs) (.int j) st = if chk (-1000 ≤ j ∧ j ≤ 1000 ∧ xs.length ≤ 1000) = true then .ok (.tup (List.replicate j.toNat xs).flatten) st else .bad := rfl
theorem rep1 {n : Nat} {x : D} : (List.replicate n [x]).flatten = List.replicate n x := by
  induction n with
  | zero => rfl
  | succ n ih => simp only [List.replicate_succ, List.flatten_cons, ih]; rfl
theorem szd_fenc {Y : Fld} (hY : IsFld Y) {n : Nat} (x : Y.T) : szd n (Y.enc x) := by
  cases hY with
  | Q =>
    cases n with
    | zero => trivial
    | succ n =>
      refine ⟨show 2 ≤ 100000 by decide, fun y hy => ?_⟩
      simp only [List.mem_cons, List.not_mem_nil, or_false] at hy
      rcases hy with rfl | rfl <;> cases n <;> trivial
  | F p => cases n <;> trivial
theorem szd_enc (hX : IsDom X) {n l N A : Nat} {x : X.T} (hl : l ≤ 100000) (hx : X.Bd l N A x) : szd n (X.enc x) := by
  cases hX with
  | Z => cases n <;> trivial
  | fld hY => exact szd_fenc hY x
  | P hY =>
    cases n with
    | zero => trivial
    | succ n =>
      refine ⟨?_, fun y hy => ?_⟩
      · rw [List.length_map]; exact Nat.le_trans hx.1 hl
      · obtain ⟨z, _, rfl⟩ := List.mem_map.mp hy
        exact szd_fenc hY z
theorem szd_tb {n m : Nat} {e : Nat → D} (hm : m ≤ 100000) (h : ∀ i, i < m → szd n (e i)) : szd (n + 1) (.tup (tb m e)) := by
  refine ⟨by rw [tb_len]; exact hm, fun x hx => ?_⟩
  obtain ⟨i, hi, rfl⟩ := tb_mem hx
  exact h i hi
theorem szd_three {n : Nat} {x y z : D} (hx : szd n x) (hy : szd n y) (hz : szd n z) : szd (n + 1) (.tup [x, y, z]) := by
  refine ⟨show 3 ≤ 100000 by decide, fun w hw => ?_⟩
  simp only [List.mem_cons, List.not_mem_nil, or_false] at hw
  rcases hw with rfl | rfl | rfl
  · exact hx
  · exact hy
  · exact hz
theorem szd_int {n : Nat} {i : Int} : szd n (.int i) := by cases n <;> trivial
theorem szd_M {n m q : Nat} {a : Nat → Nat → X.T} (hm : m ≤ 100000) (hq : q ≤ 100000) (h : ∀ i j, szd n (X.enc (a i j))) : szd (n + 3) (encM X m q a) :=
  szd_three szd_int szd_int (szd_tb hm fun i _ => szd_tb hq fun j _ => h i j)
theorem pl_M (hX : IsDom X) {m q : Nat} {a : Nat → Nat → X.T} : pl 13 (encM X m q a) = true := by
  refine pl_three (n := 12) rfl rfl (pl_row fun x hx => ?_)
  obtain ⟨i, _, rfl⟩ := tb_mem hx
  refine pl_row fun y hy => ?_
  obtain ⟨j, _, rfl⟩ := tb_mem hy
  exact enc_pl hX _
theorem same_M (h : P.fn "_law_same" = some Fn.f__law_same) (hX : IsDom X) {m q : Nat} {a : Nat → Nat → X.T} (hm : m ≤ 100000) (hq : q ≤ 100000) {l N A : Nat} (hl : l ≤ 100000) (hb : ∀ i j, X.Bd l N A (a i j)) :
    callF P sub (k + 14) "_law_same" [encM X m q a, encM X m q a] st = .ok (.bl true) st :=
  same_ok h 13 (by decide) (pl_M hX) (szd_M hm hq fun i j => szd_enc hX hl (hb i j))
end
end Lp
-- pre3
namespace Lp
open Lg
local macro_rules
  | `(tactic| bv_omega) => `(tactic| try simp only [exec, evs, evo, evc, evIt, asg, asgs, evt, e_non, e_bl, e_int, e_str, e_var, e_bin, e_neg, e_not, e_cmp, e_and, e_or, e_ite, e_call, e_prim, e_isi, e_ix, e_slice, e_tup, e_lst, e_comp, e_lrange, e_meth, e_chain, e_chain3,
      wn, wp_bind, wp_one, fn_M, q_M, q_R, n_M, ty_M, ty_ML, l_M, e_con, mo_index, e_ladd, madd_ss, e_fnv, e_rev, rev_tup, rev_scr, fn_int, fn_bl, fn_non, fn_str, fn_tup, fn_scr, fn_fro, fn_ref, sz_0, sz_1, sz_2, sz_3, sz_4, sz_5, sz_6, sz_7, sz_8, sz_9, sz_10, sz_11, sz_12, e_isi2, e_lrep, m_rep, e_glob, tb_len, tb_rng, tb_rng2, tb_enum, rd_tup0, rd_tup1, rd_tup2, rd_si, dq_tup, dq_tups, dq_nil, dq_sn, dq_ns, dq_si, dq_is, dq_st, dq_ts, dq_nt, dq_tn, dq_it, dq_ti, dq_ni, dq_in, snoc_get, snoc_set, snoc_len, n_bl, ty_listi, ty_lists, ty_listn, ty_listb, ty_listt, ty_listc, ty_listf, ty_listr, ty_tupc, ty_strc, ty_intc, ty_intt, ty_ints, ty_intn, ty_bools, ty_booln, ty_boolt, ty_boolc, ty_strb, dq_bl, c_isb, c_isnb, n_scr, n_ref,  wp_lift, wp_noexc, wp_ok, wp_exc, wp_bad, bind_ok, lift_ok, wp_ite, conj_bad, b_add, b_addT, b_addL, b_sub, b_mul, b_rep, b_fdiv, b_mod, pw_9, pw_12, pw_15, pw_18, pw_19, pw_20, pw_43, pw_45, b_shl, i_add, i_sub, i_mul, i_fdiv, i_mod, c_eq, c_ne, c_lt, c_le, c_gt, c_ge, c_is, c_isNot, p_len, p_abs, p_min2, p_max2, p_int, p_intb, p_tuple, p_list, p_sum, p_any, p_all,
      q_tup, q_scr, q_fro, l_scr, l_fro, q_ref, l_ref, x_int, t_bl, t_int, t_non, t_tup, t_scr, ty_int, ty_intb, ty_bool, ty_booli, ty_tup, ty_tupi, ty_tupn, ty_tups, ty_str, sl_fro, sl_scr, sl_tup, nl_t, nl_f, k_tup, k_scr, k_fro, k_ref, wipe, s_ref, m_app, ix_40, ix_41, ix_42, ix_43, mo_ref, gd_t, mo_bits, m_bits, at_0, at_1, at_2, at_3, at_last, Option.bind_some, Option.map_some, lit_0, lit_1, lit_2, lit_3, lit_4, lit_5, lit_6, implies_true, Int.zero_add, Int.toNat_natCast, at_nat, List.getElem?_map, rd_int, rd_non, rd_bl, rd_str, dq_int, dq_non, dq_str, n_non, n_int, n_tup, n_str, ty_stri, ty_strn, ty_strt, ty_tupb, t_ref, start,
      List.getElem?_cons_zero, List.getElem?_cons_succ, List.set_cons_zero, List.set_cons_succ, List.map_cons, List.map_nil, List.length_cons, List.length_nil, List.replicate, List.cons_append, List.nil_append, Nat.reduceAdd, Nat.reduceSub, Int.reduceEq, Int.reduceToNat, Int.reduceBEq, Nat.reduceBEq, beq_self_eq_true, Int.reduceBNe, D.bl.injEq, Int.reduceLT, Int.reduceLE, Int.reduceAdd, Int.reduceSub, Int.reduceNeg, String.reduceEq, Nat.reduceEqDiff, gc_self, gc_cell, not_true, not_false_iff, or_self, or_true, true_or, or_false, false_or, and_false, false_and, and_self, eq_self, decide_true, decide_false,
      decide_eq_true_eq, decide_eq_false_iff_not, beq_iff_eq, beq_eq_false_iff_ne, Bool.not_eq_true', Bool.not_eq_false', Bool.not_eq_eq_eq_not, bne_iff_ne, Bool.or_false, Bool.or_true, Bool.false_or, Bool.true_or, Bool.and_false, Bool.and_true, Bool.false_and, Bool.true_and, not_false_eq_true, not_true_eq_false, Bool.not_true, Bool.not_false, true_and, and_true, ne_eq, forall_const, if_true, if_false, true_implies, false_implies, reduceCtorEq, Bool.false_eq_true, Bool.true_eq_false])
local macro_rules
  | `(tactic| simp_wf) => `(tactic| (rw [wc]; bv_omega))
open Lean.Grind Al
/-! ### sums and products of elements -/
structure HasRing (P : Pg) : Prop where
  zero : P.fn "zero" = some Fn.f_zero
  trimmed : P.fn "trimmed" = some Fn.f_trimmed
  add : P.fn "add" = some Fn.f_add
  multiply : P.fn "multiply" = some Fn.f_multiply
  fraction : P.fn "fraction" = some Fn.f_fraction
  divisor : P.fn "divisor" = some Fn.f_divisor
/-- small enough to be reckoned with -/
def Fit (N A : Nat) : Prop := N < 2 ^ 2000 ∧ A < 2 ^ 2000
def qSm (x : Rat) : Prop := x.num.natAbs < 2 ^ 2000 ∧ x.den < 2 ^ 2000
theorem qSm_of {N A : Nat} {x : Rat} (h : qBd N A x) (f : Fit N A) : qSm x := by
  obtain ⟨hN, a, rfl, ha⟩ := h
  obtain ⟨f1, f2⟩ := f
  have e : (N : Int) ≠ 0 := by omega
  refine ⟨?_, ?_⟩
  · rw [Rat.num_divInt, Int.sign_eq_one_of_pos (by omega), Int.one_mul, Int.natAbs_ediv_of_dvd (Int.gcd_dvd_right _ _)]
    exact Nat.lt_of_le_of_lt (Nat.le_trans (Nat.div_le_self _ _) ha) f2
  · rw [Rat.den_divInt, if_neg e]
    exact Nat.lt_of_le_of_lt (Nat.le_trans (Nat.div_le_self _ _) (by omega)) f1
theorem qSm_ne {x : Rat} : (x.den : Int) ≠ 0 := by have := x.den_nz; omega
section
variable {P : Pg} {sub : String → String → Option Bool} {k : Nat} {st : Store} {Q : D → Store → Prop} {Er : String → Store → Prop} {c : Cell} {r : Store}
theorem big2 {x y : Int} (hx : x.natAbs < 2 ^ 2000) (hy : y.natAbs < 2 ^ 2000) : (x * y).natAbs < 2 ^ 4000 := by
  rw [Int.natAbs_mul, show (2 : Nat) ^ 4000 = 2 ^ 2000 * 2 ^ 2000 from by rw [← Nat.pow_add]]
  exact Nat.mul_lt_mul'' hx hy
theorem mul_okq {x y : Int} (hx : x.natAbs < 2 ^ 2000) (hy : y.natAbs < 2 ^ 2000) : bits x + bits y ≤ bitsLine := mul_fine hx hy (by decide)
theorem qadd_eq (x y : Rat) : Rat.divInt (x.num * y.den + y.num * x.den) (x.den * y.den) = x + y := by
  conv => rhs; rw [← Rat.num_divInt_den x, ← Rat.num_divInt_den y]
  rw [Rat.divInt_add_divInt _ _ qSm_ne qSm_ne]
theorem qmul_eq (x y : Rat) : Rat.divInt (x.num * y.num) (x.den * y.den) = x * y := by
  conv => rhs; rw [← Rat.num_divInt_den x, ← Rat.num_divInt_den y]
  rw [Rat.divInt_mul_divInt]
theorem qden_mul {x y : Rat} : (x.den : Int) * y.den ≠ 0 := Int.mul_ne_zero qSm_ne qSm_ne
theorem fadd_val {p : Nat} (x y : Fin p) : ((x.val : Int) + y.val).fmod p = ((x + y : Fin p).val : Int) := by
  rw [Int.fmod_eq_emod_of_nonneg _ (by omega), Fin.val_add]; push_cast; rfl
theorem fmul_val {p : Nat} (x y : Fin p) : ((x.val : Int) * y.val).fmod p = ((x * y : Fin p).val : Int) := by
  rw [Int.fmod_eq_emod_of_nonneg _ (by omega), Fin.val_mul]; push_cast; rfl
theorem fneg_val {p : Nat} [NeZero p] (x : Fin p) : (-(x.val : Int)).fmod p = ((-x : Fin p).val : Int) := by
  have hp : 0 < p := Nat.pos_of_ne_zero (NeZero.ne p)
  have hx := x.isLt
  rw [Int.fmod_eq_emod_of_nonneg _ (by omega), Fin.val_neg]
  by_cases h : x = 0
  · subst h; simp
  · rw [if_neg h]
    have h0 : x.val ≠ 0 := fun e => h (Fin.ext (by rw [e]; rfl))
    have e1 : (-(x.val : Int)) = ((p - x.val : Nat) : Int) + (p : Int) * (-1) := by omega
    rw [e1, Int.add_mul_emod_self_left, Int.emod_eq_of_lt (by omega) (by omega)]
theorem f_add_Q (h : HasRing P) {x y : Rat} (hx : qSm x) (hy : qSm y) : callF P sub (k + 3) "add" [qFld.d, qFld.enc x, qFld.enc y] st = .ok (qFld.enc (x + y)) st := by
  apply of_wp
  refine wcall h.add rfl ?_
  dsimp only [Fn.f_add]
  have e := qenc (n := x.num * y.den + y.num * x.den) (qden_mul (x := x) (y := y))
  rw [qadd_eq] at e
  simp only [qFld, Fd.enc]
  simp_wf
  simp_wf
  simp_wf
  simp_wf
  refine ⟨mul_okq hx.1 (by simpa using hy.2), mul_okq hy.1 (by simpa using hx.2), mul_okq (by simpa using hx.2) (by simpa using hy.2), ?_⟩
  rw [fraction_ok h.fraction h.divisor _ _ qden_mul (big_le (by decide) (big2 (by simpa using hx.2) (by simpa using hy.2)))]
  bv_omega
  exact e
theorem f_mul_Q (h : HasRing P) {x y : Rat} (hx : qSm x) (hy : qSm y) : callF P sub (k + 3) "multiply" [qFld.d, qFld.enc x, qFld.enc y] st = .ok (qFld.enc (x * y)) st := by
  apply of_wp
  refine wcall h.multiply rfl ?_
  dsimp only [Fn.f_multiply]
  have e := qenc (n := x.num * y.num) (qden_mul (x := x) (y := y))
  rw [qmul_eq] at e
  simp only [qFld, Fd.enc]
  simp_wf
  simp_wf
  simp_wf
  simp_wf
  refine ⟨mul_okq hx.1 hy.1, mul_okq (by simpa using hx.2) (by simpa using hy.2), ?_⟩
  rw [fraction_ok h.fraction h.divisor _ _ qden_mul (big_le (by decide) (big2 (by simpa using hx.2) (by simpa using hy.2)))]
  bv_omega
  exact e
theorem f_add_F (h : HasRing P) {p : Nat} [NeZero p] {x y : Fin p} : callF P sub (k + 3) "add" [(pFld p).d, (pFld p).enc x, (pFld p).enc y] st = .ok ((pFld p).enc (x + y)) st := by
  have hp : 0 < p := Nat.pos_of_ne_zero (NeZero.ne p)
  apply of_wp
  refine wcall h.add rfl ?_
  dsimp only [Fn.f_add]
  simp only [pFld, Fd.enc]
  simp_wf
  simp_wf
  simp_wf
  exact ⟨by omega, by rw [fadd_val]⟩
theorem f_mul_F (h : HasRing P) {p : Nat} [NeZero p] (hp2 : p ≤ 65521) {x y : Fin p} : callF P sub (k + 3) "multiply" [(pFld p).d, (pFld p).enc x, (pFld p).enc y] st = .ok ((pFld p).enc (x * y)) st := by
  have hp : 0 < p := Nat.pos_of_ne_zero (NeZero.ne p)
  have hx := x.isLt
  have hy := y.isLt
  apply of_wp
  refine wcall h.multiply rfl ?_
  dsimp only [Fn.f_multiply]
  simp only [pFld, Fd.enc]
  simp_wf
  simp_wf
  simp_wf
  exact ⟨mul_ok (by omega) (by omega), by omega, by rw [fmul_val]⟩
variable {X : Fld}
theorem f_add (h : HasRing P) (hX : IsFld X) {N A N' A' : Nat} {x y : X.T} (hx : X.Bd N A x) (hy : X.Bd N' A' y) (f : Fit N A) (f' : Fit N' A') : callF P sub (k + 3) "add" [X.d, X.enc x, X.enc y] st = .ok (X.enc (x + y)) st := by
  cases hX with
  | Q => exact f_add_Q h (qSm_of hx f) (qSm_of hy f')
  | F p h1 h2 => exact f_add_F h
theorem f_mul (h : HasRing P) (hX : IsFld X) {N A N' A' : Nat} {x y : X.T} (hx : X.Bd N A x) (hy : X.Bd N' A' y) (f : Fit N A) (f' : Fit N' A') : callF P sub (k + 3) "multiply" [X.d, X.enc x, X.enc y] st = .ok (X.enc (x * y)) st := by
  cases hX with
  | Q => exact f_mul_Q h (qSm_of hx f) (qSm_of hy f')
  | F p h1 h2 => exact f_mul_F h h2
end
end Lp
-- pre3
namespace Lp
open Lg
local macro_rules
  | `(tactic| bv_omega) => `(tactic| try simp only [exec, evs, evo, evc, evIt, asg, asgs, evt, e_non, e_bl, e_int, e_str, e_var, e_bin, e_neg, e_not, e_cmp, e_and, e_or, e_ite, e_call, e_prim, e_isi, e_ix, e_slice, e_tup, e_lst, e_comp, e_lrange, e_meth, e_chain, e_chain3,
      wn, wp_bind, wp_one, fn_M, q_M, q_R, n_M, ty_M, ty_ML, l_M, e_con, mo_index, e_ladd, madd_ss, e_fnv, e_rev, rev_tup, rev_scr, fn_int, fn_bl, fn_non, fn_str, fn_tup, fn_scr, fn_fro, fn_ref, sz_0, sz_1, sz_2, sz_3, sz_4, sz_5, sz_6, sz_7, sz_8, sz_9, sz_10, sz_11, sz_12, e_isi2, e_lrep, m_rep, e_glob, tb_len, tb_rng, tb_rng2, tb_enum, rd_tup0, rd_tup1, rd_tup2, rd_si, dq_tup, dq_tups, dq_nil, dq_sn, dq_ns, dq_si, dq_is, dq_st, dq_ts, dq_nt, dq_tn, dq_it, dq_ti, dq_ni, dq_in, snoc_get, snoc_set, snoc_len, n_bl, ty_listi, ty_lists, ty_listn, ty_listb, ty_listt, ty_listc, ty_listf, ty_listr, ty_tupc, ty_strc, ty_intc, ty_intt, ty_ints, ty_intn, ty_bools, ty_booln, ty_boolt, ty_boolc, ty_strb, dq_bl, c_isb, c_isnb, n_scr, n_ref,  wp_lift, wp_noexc, wp_ok, wp_exc, wp_bad, bind_ok, lift_ok, wp_ite, conj_bad, b_add, b_addT, b_addL, b_sub, b_mul, b_rep, b_fdiv, b_mod, pw_9, pw_12, pw_15, pw_18, pw_19, pw_20, pw_43, pw_45, b_shl, i_add, i_sub, i_mul, i_fdiv, i_mod, c_eq, c_ne, c_lt, c_le, c_gt, c_ge, c_is, c_isNot, p_len, p_abs, p_min2, p_max2, p_int, p_intb, p_tuple, p_list, p_sum, p_any, p_all,
      q_tup, q_scr, q_fro, l_scr, l_fro, q_ref, l_ref, x_int, t_bl, t_int, t_non, t_tup, t_scr, ty_int, ty_intb, ty_bool, ty_booli, ty_tup, ty_tupi, ty_tupn, ty_tups, ty_str, sl_fro, sl_scr, sl_tup, nl_t, nl_f, k_tup, k_scr, k_fro, k_ref, wipe, s_ref, m_app, ix_40, ix_41, ix_42, ix_43, mo_ref, gd_t, mo_bits, m_bits, at_0, at_1, at_2, at_3, at_last, Option.bind_some, Option.map_some, lit_0, lit_1, lit_2, lit_3, lit_4, lit_5, lit_6, implies_true, Int.zero_add, Int.toNat_natCast, at_nat, List.getElem?_map, rd_int, rd_non, rd_bl, rd_str, dq_int, dq_non, dq_str, n_non, n_int, n_tup, n_str, ty_stri, ty_strn, ty_strt, ty_tupb, t_ref, start,
      List.getElem?_cons_zero, List.getElem?_cons_succ, List.set_cons_zero, List.set_cons_succ, List.map_cons, List.map_nil, List.length_cons, List.length_nil, List.replicate, List.cons_append, List.nil_append, Nat.reduceAdd, Nat.reduceSub, Int.reduceEq, Int.reduceToNat, Int.reduceBEq, Nat.reduceBEq, beq_self_eq_true, Int.reduceBNe, D.bl.injEq, Int.reduceLT, Int.reduceLE, Int.reduceAdd, Int.reduceSub, Int.reduceNeg, String.reduceEq, Nat.reduceEqDiff, gc_self, gc_cell, not_true, not_false_iff, or_self, or_true, true_or, or_false, false_or, and_false, false_and, and_self, eq_self, decide_true, decide_false,
      decide_eq_true_eq, decide_eq_false_iff_not, beq_iff_eq, beq_eq_false_iff_ne, Bool.not_eq_true', Bool.not_eq_false', Bool.not_eq_eq_eq_not, bne_iff_ne, Bool.or_false, Bool.or_true, Bool.false_or, Bool.true_or, Bool.and_false, Bool.and_true, Bool.false_and, Bool.true_and, not_false_eq_true, not_true_eq_false, Bool.not_true, Bool.not_false, true_and, and_true, ne_eq, forall_const, if_true, if_false, true_implies, false_implies, reduceCtorEq, Bool.false_eq_true, Bool.true_eq_false])
local macro_rules
  | `(tactic| simp_wf) => `(tactic| (rw [wc]; bv_omega))
open Lean.Grind Al
section
variable {P : Pg} {sub : String → String → Option Bool} {k : Nat} {st : Store} {Q : D → Store → Prop} {Er : String → Store → Prop} {c : Cell} {r : Store} {X : Fld}
theorem map_tb {R : Type} [CommRing R] [DecidableEq R] {e : R → D} {l : List R} : l.map e = tb l.length fun j => e (cf l j) :=
  tb_ext (by simp) fun i hi => by rw [List.getElem?_map, List.getElem?_eq_getElem (by omega), cf_get (by omega)]; rfl
theorem at_cf {R : Type} [CommRing R] [DecidableEq R] {l : List R} {i : Nat} (h : i < l.length) : l[i]? = some (cf l i) := by
  rw [List.getElem?_eq_getElem h, cf_get h]
theorem gc_snoc {d : D} (h : noRef d = true) {cl : Cell} : gc st (st ++ [cl]) d = st := gc_app _ _ h
theorem noRef_tupmap {l : List X.T} (hX : IsFld X) : noRef (.tup (l.map X.enc)) = true := by
  refine pl_noRef (n := 3) ?_
  simp only [pl, pls_mem]
  intro y hy
  obtain ⟨z, _, rfl⟩ := List.mem_map.mp hy
  exact fenc_pl hX z
theorem size_ok {n : Nat} (h : n ≤ 1000000) : n ≤ sizeLine := Nat.le_trans h (by decide)
theorem p_add (h : HasRing P) (hX : IsFld X) {N A N' A' : Nat} {x y : Poly X.T} (hx : BdL X N A x.c) (hy : BdL X N' A' y.c) (f : Fit N A) (f' : Fit N' A') (lx : x.c.length ≤ 100000) (ly : y.c.length ≤ 100000) :
    callF P sub (k + 4) "add" [(pDom X).d, (pDom X).enc x, (pDom X).enc y] st = .ok ((pDom X).enc (x + y)) st := by
  apply of_wp
  refine wcall h.add rfl ?_
  dsimp only [Fn.f_add]
  simp only [pDom]
  simp_wf
  simp_wf
  simp_wf
  simp_wf
  rw [wc]
  refine wjoin (fun e s => ∃ (u v : Poly X.T) (M B M' B' : Nat), e = [some (.tup [.str "P", X.d]), some (.tup (u.c.map X.enc)), some (.tup (v.c.map X.enc)), some X.d, none, none, none] ∧ st = s ∧ u + v = x + y ∧ v.c.length ≤ u.c.length ∧ u.c.length ≤ 100000 ∧ BdL X M B u.c ∧ BdL X M' B' v.c ∧ Fit M B ∧ Fit M' B') ?_ ?_
  · bv_omega
    simp only [List.length_map]
    refine ⟨fun hlt => ?_, fun hge => ⟨x, y, N, A, N', A', rfl, rfl, by omega, by omega, hx, hy, f, f'⟩⟩
    simp_wf
    exact ⟨y, x, N', A', N, A, rfl, by grind, by omega, by omega, hy, hx, f', f⟩
  · rintro e s ⟨u, v, M, B, M', B', rfl, rfl, hs, hl, lu, hu, hv, g, g'⟩
    rw [← hs]
    rw [wc]; bv_omega
    rw [wc]; bv_omega
    rw [map_tb (l := v.c), tb_enum]
    refine wforN (fun i e s => ∃ (l : List X.T) (z5 z6 : Option D), e = [some (.tup [.str "P", X.d]), some (.tup (u.c.map X.enc)), some (.tup (v.c.map X.enc)), some X.d, some (.ref st.length), z5, z6] ∧ s = st ++ [.lst (l.map X.enc)] ∧ l.length = u.c.length ∧ ∀ j, cf l j = cf u.c j + if j < i then cf v.c j else 0) (fun _ _ _ _ => rfl) (fun i e s hi hI => ?_) (fun e s hI => ?_) _ _ ⟨u.c, none, none, ?_, rfl, rfl, fun j => ?_⟩
    · obtain ⟨l, z5, z6, rfl, rfl, hll, hl2⟩ := hI
      bv_omega
      rw [wc]; bv_omega
      rw [at_cf (l := l) (by omega)]; bv_omega
      have hli : cf l i = cf u.c i := by rw [hl2 i, if_neg (by omega)]; grind
      rw [hli, f_add h hX (bdl_get hX hu i) (bdl_get hX hv i) g g']; bv_omega
      rw [List.length_map, ix_nat (by omega)]; bv_omega
      rw [← List.map_set]
      refine ⟨l.set i (cf u.c i + cf v.c i), _, _, rfl, rfl, by rw [List.length_set]; exact hll, fun j => ?_⟩
      rw [cf_set (by omega), hl2 j]
      by_cases e : j = i
      · subst e; rw [if_pos rfl, if_pos (by omega)]
      · rw [if_neg e]
        by_cases e2 : j < i
        · rw [if_pos e2, if_pos (by omega)]
        · rw [if_neg e2, if_neg (by omega)]
    · obtain ⟨l, z5, z6, rfl, rfl, hll, hl2⟩ := hI
      bv_omega
      rw [wc]; bv_omega
      rw [trimmed_ok h.trimmed h.zero hX rd_last]; bv_omega
      refine ⟨?_, gc_snoc (noRef_tupmap hX)⟩
      have : trim l = (u + v).c := by
        refine trim_ext (m := addL u.c v.c) fun j => ?_
        rw [cf_addL, hl2 j]
        by_cases e : j < v.c.length
        · rw [if_pos e]
        · rw [if_neg e, cf_ge (l := v.c) (by omega)]
      rw [this]
    · rw [map_tb (l := v.c)]
    · rw [if_neg (Nat.not_lt_zero _)]; grind
theorem bdl_take (hX : IsFld X) {N : Nat} : ∀ {A : Nat} {l : List X.T} (i : Nat), BdL X N A l → BdL X N A (l.take i)
  | A, [], i, hl => by rw [List.take_nil]; exact hl
  | A, a :: l, 0, hl => bdl_pos hX hl
  | A, a :: l, i + 1, ⟨A1, A2, h1, h2, h3⟩ => ⟨A1, A2, h1, h2, bdl_take hX i h3⟩
theorem mulL_take {R : Type} [CommRing R] [DecidableEq R] {x y : List R} {i : Nat} (h : i < x.length) (j : Nat) : cf (mulL (x.take (i + 1)) y) j = cf (mulL (x.take i) y) j + if i ≤ j then cf x i * cf y (j - i) else 0 := by
  have e : x.take (i + 1) = x.take i ++ [cf x i] := by rw [List.take_add_one, at_cf h]; rfl
  rw [e, mulL_snoc, List.length_take, Nat.min_eq_left (by omega)]
theorem p_mul (h : HasRing P) (hX : IsFld X) {N A N' A' : Nat} {x y : Poly X.T} (hx : BdL X N A x.c) (hy : BdL X N' A' y.c) (f : Fit N A) (f' : Fit N' A') (ff : Fit (N * N') (A * A')) (lx : x.c.length ≤ 100000) (ly : y.c.length ≤ 100000) :
    callF P sub (k + 4) "multiply" [(pDom X).d, (pDom X).enc x, (pDom X).enc y] st = .ok ((pDom X).enc (x * y)) st := by
  apply of_wp
  refine wcall h.multiply rfl ?_
  dsimp only [Fn.f_multiply]
  simp only [pDom]
  simp_wf
  simp_wf
  simp_wf
  by_cases hx0 : x.c.length = 0
  · rw [wc]; bv_omega
    simp only [List.length_map, hx0]; bv_omega
    rw [wc]; bv_omega
    have e : (x * y).c = [] := by
      refine nrm_ext (Poly.nrm _) (fun a ha => by simp at ha) fun j => ?_
      rw [Poly.mul_cf, List.eq_nil_of_length_eq_zero hx0, cf_mulL_nil, cf_nil]
    rw [e]; rfl
  by_cases hy0 : y.c.length = 0
  · rw [wc]; bv_omega
    simp only [List.length_map, hy0]; bv_omega
    refine ⟨fun h => absurd h (by omega), fun _ => ?_⟩
    rw [wc]; bv_omega
    have e : (x * y).c = [] := by
      refine nrm_ext (Poly.nrm _) (fun a ha => by simp at ha) fun j => ?_
      rw [Poly.mul_cf, List.eq_nil_of_length_eq_zero hy0, mulL_nil, cf_nil]
    rw [e]; rfl
  rw [wc]; bv_omega
  simp only [List.length_map]
  refine ⟨fun h => absurd h (by omega), fun _ => ⟨fun h => absurd h (by omega), fun _ => ?_⟩⟩
  rw [wc]; bv_omega
  rw [wc]; bv_omega
  simp only [List.length_map]
  refine ⟨rng_fine (by omega) (by omega) (by omega) (by omega), ?_⟩
  rw [show ((x.c.length : Int) + y.c.length - 1).toNat = x.c.length + y.c.length - 1 by omega]
  generalize hL : x.c.length + y.c.length - 1 = L
  refine wmapN (f := fun _ => X.enc 0) rfl (size_ok (by omega)) (fun i hi => ?_) ?_
  · bv_omega
    rw [zero_f h.zero hX]; bv_omega
  bv_omega
  have hN : 0 < N * N' := Nat.mul_pos (bdl_pos hX hx) (bdl_pos hX hy)
  have hB : ∀ i j, X.Bd (N * N') (A * A') (cf (mulL (x.c.take i) y.c) j) := fun i j => bdl_get hX (bdl_mul hX (bdl_take hX i hx) hy) j
  rw [wc]; bv_omega
  rw [map_tb (l := x.c), tb_enum]
  have e0 : (tb L fun _ => X.enc 0) = (List.replicate L (0 : X.T)).map X.enc := by rw [List.map_replicate, tb_rep]
  rw [e0]
  refine wforN (fun i e s => ∃ (l : List X.T) (z6 z7 z8 z9 : Option D), e = [some (.tup [.str "P", X.d]), some (.tup (tb x.c.length fun j => X.enc (cf x.c j))), some (.tup (y.c.map X.enc)), some X.d, some (.ref st.length), none, z6, z7, z8, z9] ∧ s = st ++ [.lst (l.map X.enc)] ∧ l.length = L ∧ ∀ j, cf l j = cf (mulL (x.c.take i) y.c) j) (fun _ _ _ _ => rfl) (fun i e s hi hI => ?_) (fun e s hI => ?_) _ _ ⟨List.replicate L 0, none, none, none, none, rfl, rfl, by simp, fun j => ?_⟩
  · obtain ⟨l, z6, z7, z8, z9, rfl, rfl, hl, hl2⟩ := hI
    bv_omega
    rw [wc]; bv_omega
    rw [map_tb (l := y.c), tb_enum]
    refine wforN (fun j e s => ∃ (l : List X.T) (z8 z9 : Option D), e = [some (.tup [.str "P", X.d]), some (.tup (tb x.c.length fun j => X.enc (cf x.c j))), some (.tup (tb y.c.length fun j => X.enc (cf y.c j))), some X.d, some (.ref st.length), none, some (.int (i : Nat)), some (X.enc (cf x.c i)), z8, z9] ∧ s = st ++ [.lst (l.map X.enc)] ∧ l.length = L ∧ ∀ m, cf l m = if m < i + j then cf (mulL (x.c.take (i + 1)) y.c) m else cf (mulL (x.c.take i) y.c) m) (fun _ _ _ _ => rfl) (fun j e s hj hI => ?_) (fun e s hI => ?_) _ _ ⟨l, z8, z9, rfl, rfl, hl, fun m => ?_⟩
    · clear hl2 hl
      obtain ⟨l, z8, z9, rfl, rfl, hl, hl2⟩ := hI
      bv_omega
      rw [wc]; bv_omega
      rw [at_get (by omega), List.getElem?_map, show ((i : Int) + j).toNat = i + j by omega, at_cf (l := l) (by omega)]; bv_omega
      have hli : cf l (i + j) = cf (mulL (x.c.take i) y.c) (i + j) := by rw [hl2, if_neg (by omega)]
      have hnew : cf (mulL (x.c.take i) y.c) (i + j) + cf x.c i * cf y.c j = cf (mulL (x.c.take (i + 1)) y.c) (i + j) := by
        rw [mulL_take hi, if_pos (by omega), show i + j - i = j by omega]
      rw [f_mul h hX (bdl_get hX hx i) (bdl_get hX hy j) f f']; bv_omega
      rw [hli, f_add h hX (hB i (i + j)) (fbd_mul hX (bdl_get hX hx i) (bdl_get hX hy j)) ff ff]; bv_omega
      rw [List.length_map, show ((i : Int) + j) = ((i + j : Nat) : Int) by omega, ix_nat (by omega)]; bv_omega
      rw [← List.map_set, hnew]
      refine ⟨l.set (i + j) _, _, _, rfl, rfl, by rw [List.length_set]; exact hl, fun m => ?_⟩
      rw [cf_set (by omega), hl2 m]
      by_cases e : m = i + j
      · subst e; rw [if_pos rfl, if_pos (by omega)]
      · rw [if_neg e]
        by_cases e2 : m < i + j
        · rw [if_pos e2, if_pos (by omega)]
        · rw [if_neg e2, if_neg (by omega)]
    · clear hl2 hl
      obtain ⟨l, z8, z9, rfl, rfl, hl, hl2⟩ := hI
      bv_omega
      refine ⟨l, some (.int (i : Nat)), some (X.enc (cf x.c i)), z8, z9, ?_, rfl, hl, fun m => ?_⟩
      · rfl
      · rw [hl2 m]
        split
        · rfl
        · rw [mulL_take hi, if_pos (by omega), cf_ge (l := y.c) (by omega)]; grind
    · rw [hl2 m]
      split
      · rw [mulL_take hi, if_neg (by omega)]; grind
      · rfl
  · obtain ⟨l, z6, z7, z8, z9, rfl, rfl, hl, hl2⟩ := hI
    bv_omega
    rw [wc]; bv_omega
    rw [trimmed_ok h.trimmed h.zero hX rd_last]; bv_omega
    refine ⟨?_, gc_snoc (noRef_tupmap hX)⟩
    have : trim l = (x * y).c := by
      refine trim_ext (m := mulL x.c y.c) fun j => ?_
      rw [hl2 j, List.take_length]
    rw [this]
  · rw [cf_rep, List.take_zero, cf_mulL_nil]
end
end Lp
-- pre3
namespace Lp
open Lg
local macro_rules
  | `(tactic| bv_omega) => `(tactic| try simp only [exec, evs, evo, evc, evIt, asg, asgs, evt, e_non, e_bl, e_int, e_str, e_var, e_bin, e_neg, e_not, e_cmp, e_and, e_or, e_ite, e_call, e_prim, e_isi, e_ix, e_slice, e_tup, e_lst, e_comp, e_lrange, e_meth, e_chain, e_chain3,
      wn, wp_bind, wp_one, fn_M, q_M, q_R, n_M, ty_M, ty_ML, l_M, e_con, mo_index, e_ladd, madd_ss, e_fnv, e_rev, rev_tup, rev_scr, fn_int, fn_bl, fn_non, fn_str, fn_tup, fn_scr, fn_fro, fn_ref, sz_0, sz_1, sz_2, sz_3, sz_4, sz_5, sz_6, sz_7, sz_8, sz_9, sz_10, sz_11, sz_12, e_isi2, e_lrep, m_rep, e_glob, tb_len, tb_rng, tb_rng2, tb_enum, rd_tup0, rd_tup1, rd_tup2, rd_si, dq_tup, dq_tups, dq_nil, dq_sn, dq_ns, dq_si, dq_is, dq_st, dq_ts, dq_nt, dq_tn, dq_it, dq_ti, dq_ni, dq_in, snoc_get, snoc_set, snoc_len, n_bl, ty_listi, ty_lists, ty_listn, ty_listb, ty_listt, ty_listc, ty_listf, ty_listr, ty_tupc, ty_strc, ty_intc, ty_intt, ty_ints, ty_intn, ty_bools, ty_booln, ty_boolt, ty_boolc, ty_strb, dq_bl, c_isb, c_isnb, n_scr, n_ref,  wp_lift, wp_noexc, wp_ok, wp_exc, wp_bad, bind_ok, lift_ok, wp_ite, conj_bad, b_add, b_addT, b_addL, b_sub, b_mul, b_rep, b_fdiv, b_mod, pw_9, pw_12, pw_15, pw_18, pw_19, pw_20, pw_43, pw_45, b_shl, i_add, i_sub, i_mul, i_fdiv, i_mod, c_eq, c_ne, c_lt, c_le, c_gt, c_ge, c_is, c_isNot, p_len, p_abs, p_min2, p_max2, p_int, p_intb, p_tuple, p_list, p_sum, p_any, p_all,
      q_tup, q_scr, q_fro, l_scr, l_fro, q_ref, l_ref, x_int, t_bl, t_int, t_non, t_tup, t_scr, ty_int, ty_intb, ty_bool, ty_booli, ty_tup, ty_tupi, ty_tupn, ty_tups, ty_str, sl_fro, sl_scr, sl_tup, nl_t, nl_f, k_tup, k_scr, k_fro, k_ref, wipe, s_ref, m_app, ix_40, ix_41, ix_42, ix_43, mo_ref, gd_t, mo_bits, m_bits, at_0, at_1, at_2, at_3, at_last, Option.bind_some, Option.map_some, lit_0, lit_1, lit_2, lit_3, lit_4, lit_5, lit_6, implies_true, Int.zero_add, Int.toNat_natCast, at_nat, List.getElem?_map, rd_int, rd_non, rd_bl, rd_str, dq_int, dq_non, dq_str, n_non, n_int, n_tup, n_str, ty_stri, ty_strn, ty_strt, ty_tupb, t_ref, start,
      List.getElem?_cons_zero, List.getElem?_cons_succ, List.set_cons_zero, List.set_cons_succ, List.map_cons, List.map_nil, List.length_cons, List.length_nil, List.replicate, List.cons_append, List.nil_append, Nat.reduceAdd, Nat.reduceSub, Int.reduceEq, Int.reduceToNat, Int.reduceBEq, Nat.reduceBEq, beq_self_eq_true, Int.reduceBNe, D.bl.injEq, Int.reduceLT, Int.reduceLE, Int.reduceAdd, Int.reduceSub, Int.reduceNeg, String.reduceEq, Nat.reduceEqDiff, gc_self, gc_cell, not_true, not_false_iff, or_self, or_true, true_or, or_false, false_or, and_false, false_and, and_self, eq_self, decide_true, decide_false,
      decide_eq_true_eq, decide_eq_false_iff_not, beq_iff_eq, beq_eq_false_iff_ne, Bool.not_eq_true', Bool.not_eq_false', Bool.not_eq_eq_eq_not, bne_iff_ne, Bool.or_false, Bool.or_true, Bool.false_or, Bool.true_or, Bool.and_false, Bool.and_true, Bool.false_and, Bool.true_and, not_false_eq_true, not_true_eq_false, Bool.not_true, Bool.not_false, true_and, and_true, ne_eq, forall_const, if_true, if_false, true_implies, false_implies, reduceCtorEq, Bool.false_eq_true, Bool.true_eq_false])
local macro_rules
  | `(tactic| simp_wf) => `(tactic| (rw [wc]; bv_omega))
open Lean.Grind Al
def DFit (l N A : Nat) : Prop := l ≤ 100000 ∧ N < 2 ^ 2000 ∧ A < 2 ^ 2000
theorem DFit.f {l N A : Nat} (h : DFit l N A) : Fit N A := h.2
section
variable {P : Pg} {sub : String → String → Option Bool} {k : Nat} {st : Store} {Q : D → Store → Prop} {Er : String → Store → Prop} {X : Dom} {l N A l' N' A' : Nat} {x y : X.T}
theorem z_small {x : Int} {A : Nat} (h : x.natAbs ≤ A) (h2 : A < 2 ^ 2000) : x.natAbs < 2 ^ 2000 := Nat.lt_of_le_of_lt h h2
theorem d_add (h : HasRing P) (hX : IsDom X) (hx : X.Bd l N A x) (hy : X.Bd l' N' A' y) (f : DFit l N A) (f' : DFit l' N' A') : callF P sub (k + 4) "add" [X.d, X.enc x, X.enc y] st = .ok (X.enc (x + y)) st := by
  cases hX with
  | Z =>
    have key : ∀ x y : Int, callF P sub (k + 4) "add" [Dm.Z.enc, .int x, .int y] st = .ok (.int (x + y)) st := by
      intro x y
      apply of_wp
      refine wcall h.add rfl ?_
      dsimp only [Fn.f_add]
      simp only [Dm.enc]
      simp_wf
      simp_wf
    exact key x y
  | fld hX => exact f_add (k := k + 1) h hX hx hy f.f f'.f
  | P hX => exact p_add h hX hx.2 hy.2 f.f f'.f (Nat.le_trans hx.1 f.1) (Nat.le_trans hy.1 f'.1)
theorem d_mul (h : HasRing P) (hX : IsDom X) (hx : X.Bd l N A x) (hy : X.Bd l' N' A' y) (f : DFit l N A) (f' : DFit l' N' A') (ff : Fit (N * N') (A * A')) : callF P sub (k + 4) "multiply" [X.d, X.enc x, X.enc y] st = .ok (X.enc (x * y)) st := by
  cases hX with
  | Z =>
    have key : ∀ x y : Int, x.natAbs < 2 ^ 2000 → y.natAbs < 2 ^ 2000 → callF P sub (k + 4) "multiply" [Dm.Z.enc, .int x, .int y] st = .ok (.int (x * y)) st := by
      intro x y hx hy
      apply of_wp
      refine wcall h.multiply rfl ?_
      dsimp only [Fn.f_multiply]
      simp only [Dm.enc]
      simp_wf
      simp_wf
      exact fun hn => absurd (mul_okq hx hy) hn
    exact key x y (z_small hx.2 f.2.2) (z_small hy.2 f'.2.2)
  | fld hX => exact f_mul (k := k + 1) h hX hx hy f.f f'.f
  | P hX => exact p_mul h hX hx.2 hy.2 f.f f'.f ff (Nat.le_trans hx.1 f.1) (Nat.le_trans hy.1 f'.1)
theorem f_one (h : P.fn "one" = some Fn.f_one) {X : Fld} (hX : IsFld X) : callF P sub (k + 1) "one" [X.d] st = .ok (X.enc 1) st := by
  apply of_wp
  refine wcall h rfl ?_
  dsimp only [Fn.f_one]
  cases hX with
  | Q =>
    simp only [qFld, Fd.enc]
    simp_wf
    simp_wf
    rfl
  | F p hp =>
    have e : ((1 : Fin p).val : Int) = 1 := by
      have := hp.1
      have : (1 : Fin p).val = 1 := by
        show 1 % p = 1
        exact Nat.mod_eq_of_lt (by omega)
      omega
    have e2 : (pFld p).enc 1 = .int 1 := by
      show D.int ((1 : Fin p).val : Int) = _
      rw [e]
    rw [e2]
    simp only [pFld, Fd.enc]
    simp_wf
    simp_wf
theorem fld_ne {X : Fld} (hX : IsFld X) : (1 : X.T) ≠ 0 := by
  cases hX with
  | Q => intro h; have : (1 : Rat) = 0 := h; revert this; decide
  | F p hp =>
    intro h
    have := hp.1
    have h2 : (1 : Fin p).val = (0 : Fin p).val := congrArg Fin.val (show (1 : Fin p) = 0 from h)
    have h3 : 1 % p = 0 := h2
    rw [Nat.mod_eq_of_lt (by omega)] at h3
    omega
theorem poly_one {Y : Fld} (hY : IsFld Y) : (1 : Poly Y.T).c = [1] := by
  show trim [(1 : Y.T)] = [1]
  refine trim_of fun a ha => ?_
  simp only [List.getLast?_singleton, Option.some.injEq] at ha
  rw [← ha]; exact fld_ne hY
theorem one_ok (h : P.fn "one" = some Fn.f_one) (hX : IsDom X) : callF P sub (k + 2) "one" [X.d] st = .ok (X.enc 1) st := by
  cases hX with
  | Z =>
    apply of_wp
    refine wcall h rfl ?_
    dsimp only [Fn.f_one]
    simp only [zDom, Dm.enc]
    simp_wf
    simp_wf
    rfl
  | fld hX => exact f_one (k := k + 1) h hX
  | @P Y hX =>
    apply of_wp
    refine wcall h rfl ?_
    dsimp only [Fn.f_one]
    have e : (pDom Y).enc 1 = .tup [Y.enc 1] := by
      show D.tup ((1 : Poly Y.T).c.map Y.enc) = _
      rw [poly_one hX]; rfl
    rw [e]
    simp only [pDom]
    simp_wf
    simp_wf
    rw [f_one h hX]; bv_omega
end
end Lp
-- pre3
namespace Lp
open Lg
local macro_rules
  | `(tactic| bv_omega) => `(tactic| try simp only [exec, evs, evo, evc, evIt, asg, asgs, evt, e_non, e_bl, e_int, e_str, e_var, e_bin, e_neg, e_not, e_cmp, e_and, e_or, e_ite, e_call, e_prim, e_isi, e_ix, e_slice, e_tup, e_lst, e_comp, e_lrange, e_meth, e_chain, e_chain3,
      wn, wp_bind, wp_one, fn_M, q_M, q_R, n_M, ty_M, ty_ML, l_M, e_con, mo_index, e_ladd, madd_ss, e_fnv, e_rev, rev_tup, rev_scr, fn_int, fn_bl, fn_non, fn_str, fn_tup, fn_scr, fn_fro, fn_ref, sz_0, sz_1, sz_2, sz_3, sz_4, sz_5, sz_6, sz_7, sz_8, sz_9, sz_10, sz_11, sz_12, e_isi2, e_lrep, m_rep, e_glob, tb_len, tb_rng, tb_rng2, tb_enum, rd_tup0, rd_tup1, rd_tup2, rd_si, dq_tup, dq_tups, dq_nil, dq_sn, dq_ns, dq_si, dq_is, dq_st, dq_ts, dq_nt, dq_tn, dq_it, dq_ti, dq_ni, dq_in, snoc_get, snoc_set, snoc_len, n_bl, ty_listi, ty_lists, ty_listn, ty_listb, ty_listt, ty_listc, ty_listf, ty_listr, ty_tupc, ty_strc, ty_intc, ty_intt, ty_ints, ty_intn, ty_bools, ty_booln, ty_boolt, ty_boolc, ty_strb, dq_bl, c_isb, c_isnb, n_scr, n_ref,  wp_lift, wp_noexc, wp_ok, wp_exc, wp_bad, bind_ok, lift_ok, wp_ite, conj_bad, b_add, b_addT, b_addL, b_sub, b_mul, b_rep, b_fdiv, b_mod, pw_9, pw_12, pw_15, pw_18, pw_19, pw_20, pw_43, pw_45, b_shl, i_add, i_sub, i_mul, i_fdiv, i_mod, c_eq, c_ne, c_lt, c_le, c_gt, c_ge, c_is, c_isNot, p_len, p_abs, p_min2, p_max2, p_int, p_intb, p_tuple, p_list, p_sum, p_any, p_all,
      q_tup, q_scr, q_fro, l_scr, l_fro, q_ref, l_ref, x_int, t_bl, t_int, t_non, t_tup, t_scr, ty_int, ty_intb, ty_bool, ty_booli, ty_tup, ty_tupi, ty_tupn, ty_tups, ty_str, sl_fro, sl_scr, sl_tup, nl_t, nl_f, k_tup, k_scr, k_fro, k_ref, wipe, s_ref, m_app, ix_40, ix_41, ix_42, ix_43, mo_ref, gd_t, mo_bits, m_bits, at_0, at_1, at_2, at_3, at_last, Option.bind_some, Option.map_some, lit_0, lit_1, lit_2, lit_3, lit_4, lit_5, lit_6, implies_true, Int.zero_add, Int.toNat_natCast, at_nat, List.getElem?_map, rd_int, rd_non, rd_bl, rd_str, dq_int, dq_non, dq_str, n_non, n_int, n_tup, n_str, ty_stri, ty_strn, ty_strt, ty_tupb, t_ref, start,
      List.getElem?_cons_zero, List.getElem?_cons_succ, List.set_cons_zero, List.set_cons_succ, List.map_cons, List.map_nil, List.length_cons, List.length_nil, List.replicate, List.cons_append, List.nil_append, Nat.reduceAdd, Nat.reduceSub, Int.reduceEq, Int.reduceToNat, Int.reduceBEq, Nat.reduceBEq, beq_self_eq_true, Int.reduceBNe, D.bl.injEq, Int.reduceLT, Int.reduceLE, Int.reduceAdd, Int.reduceSub, Int.reduceNeg, String.reduceEq, Nat.reduceEqDiff, gc_self, gc_cell, not_true, not_false_iff, or_self, or_true, true_or, or_false, false_or, and_false, false_and, and_self, eq_self, decide_true, decide_false,
      decide_eq_true_eq, decide_eq_false_iff_not, beq_iff_eq, beq_eq_false_iff_ne, Bool.not_eq_true', Bool.not_eq_false', Bool.not_eq_eq_eq_not, bne_iff_ne, Bool.or_false, Bool.or_true, Bool.false_or, Bool.true_or, Bool.and_false, Bool.and_true, Bool.false_and, Bool.true_and, not_false_eq_true, not_true_eq_false, Bool.not_true, Bool.not_false, true_and, and_true, ne_eq, forall_const, if_true, if_false, true_implies, false_implies, reduceCtorEq, Bool.false_eq_true, Bool.true_eq_false])
local macro_rules
  | `(tactic| simp_wf) => `(tactic| (rw [wc]; bv_omega))
open Lean.Grind Al
section
variable {P : Pg} {sub : String → String → Option Bool} {k : Nat} {st : Store} {Q : D → Store → Prop} {Er : String → Store → Prop}
/-! ### the law's own sums and products -/
theorem l_add_Q (h : HasLaw P) {x y : Rat} (hx : qSm x) (hy : qSm y) : callF P sub (k + 3) "_law_add" [qFld.d, qFld.enc x, qFld.enc y] st = .ok (qFld.enc (x + y)) st := by
  apply of_wp
  refine wcall h.add rfl ?_
  dsimp only [Fn.f__law_add]
  have e := qenc (n := x.num * y.den + y.num * x.den) (qden_mul (x := x) (y := y))
  rw [qadd_eq] at e
  simp only [qFld, Fd.enc]
  simp_wf
  simp_wf
  refine ⟨mul_okq hx.1 (by simpa using hy.2), mul_okq hy.1 (by simpa using hx.2), mul_okq (by simpa using hx.2) (by simpa using hy.2), ?_⟩
  rw [law_fraction_ok h.fraction h.common _ _ qden_mul (big_le (by decide) (big2 (by simpa using hx.2) (by simpa using hy.2)))]
  bv_omega
  exact e
theorem l_mul_Q (h : HasLaw P) {x y : Rat} (hx : qSm x) (hy : qSm y) : callF P sub (k + 3) "_law_multiply" [qFld.d, qFld.enc x, qFld.enc y] st = .ok (qFld.enc (x * y)) st := by
  apply of_wp
  refine wcall h.mul rfl ?_
  dsimp only [Fn.f__law_multiply]
  have e := qenc (n := x.num * y.num) (qden_mul (x := x) (y := y))
  rw [qmul_eq] at e
  simp only [qFld, Fd.enc]
  simp_wf
  simp_wf
  refine ⟨mul_okq hx.1 hy.1, mul_okq (by simpa using hx.2) (by simpa using hy.2), ?_⟩
  rw [law_fraction_ok h.fraction h.common _ _ qden_mul (big_le (by decide) (big2 (by simpa using hx.2) (by simpa using hy.2)))]
  bv_omega
  exact e
theorem l_add_F (h : HasLaw P) {p : Nat} [NeZero p] {x y : Fin p} : callF P sub (k + 3) "_law_add" [(pFld p).d, (pFld p).enc x, (pFld p).enc y] st = .ok ((pFld p).enc (x + y)) st := by
  have hp : 0 < p := Nat.pos_of_ne_zero (NeZero.ne p)
  apply of_wp
  refine wcall h.add rfl ?_
  dsimp only [Fn.f__law_add]
  simp only [pFld, Fd.enc]
  simp_wf
  simp_wf
  simp_wf
  exact ⟨by omega, by rw [fadd_val]⟩
theorem l_mul_F (h : HasLaw P) {p : Nat} [NeZero p] (hp2 : p ≤ 65521) {x y : Fin p} : callF P sub (k + 3) "_law_multiply" [(pFld p).d, (pFld p).enc x, (pFld p).enc y] st = .ok ((pFld p).enc (x * y)) st := by
  have hp : 0 < p := Nat.pos_of_ne_zero (NeZero.ne p)
  have hx := x.isLt
  have hy := y.isLt
  apply of_wp
  refine wcall h.mul rfl ?_
  dsimp only [Fn.f__law_multiply]
  simp only [pFld, Fd.enc]
  simp_wf
  simp_wf
  simp_wf
  exact ⟨mul_ok (by omega) (by omega), by omega, by rw [fmul_val]⟩
section
variable {X : Fld}
theorem lf_add (h : HasLaw P) (hX : IsFld X) {N A N' A' : Nat} {x y : X.T} (hx : X.Bd N A x) (hy : X.Bd N' A' y) (f : Fit N A) (f' : Fit N' A') : callF P sub (k + 3) "_law_add" [X.d, X.enc x, X.enc y] st = .ok (X.enc (x + y)) st := by
  cases hX with
  | Q => exact l_add_Q h (qSm_of hx f) (qSm_of hy f')
  | F p h1 h2 => exact l_add_F h
theorem lf_mul (h : HasLaw P) (hX : IsFld X) {N A N' A' : Nat} {x y : X.T} (hx : X.Bd N A x) (hy : X.Bd N' A' y) (f : Fit N A) (f' : Fit N' A') : callF P sub (k + 3) "_law_multiply" [X.d, X.enc x, X.enc y] st = .ok (X.enc (x * y)) st := by
  cases hX with
  | Q => exact l_mul_Q h (qSm_of hx f) (qSm_of hy f')
  | F p h1 h2 => exact l_mul_F h h2
theorem lpart_ok (h : HasLaw P) (hX : IsFld X) {l : List X.T} {j : Nat} : callF P sub (k + 2) "_law_part" [X.d, .tup (l.map X.enc), .int (j : Nat)] st = .ok (X.enc (cf l j)) st := by
  apply of_wp
  refine wcall h.part rfl ?_
  dsimp only [Fn.f__law_part]
  simp_wf
  rw [List.length_map]
  refine ⟨fun hl => ?_, fun hl => ?_⟩
  · simp_wf
    rw [at_cf (l := l) (by omega)]; bv_omega
  · simp_wf
    rw [lzero_f h.zero hX]; bv_omega
    rw [cf_ge (by omega)]
theorem max_len {a b : Nat} : (if (b : Int) > a then (b : Int) else a) = ((max a b : Nat) : Int) := by
  split <;> omega
theorem lp_add (h : HasLaw P) (hX : IsFld X) {N A N' A' : Nat} {x y : Poly X.T} (hx : BdL X N A x.c) (hy : BdL X N' A' y.c) (f : Fit N A) (f' : Fit N' A') (lx : x.c.length ≤ 100000) (ly : y.c.length ≤ 100000) :
    callF P sub (k + 4) "_law_add" [(pDom X).d, (pDom X).enc x, (pDom X).enc y] st = .ok ((pDom X).enc (x + y)) st := by
  apply of_wp
  refine wcall h.add rfl ?_
  dsimp only [Fn.f__law_add]
  simp only [pDom]
  simp_wf
  simp_wf
  simp_wf
  simp_wf
  simp_wf
  rw [List.length_map, List.length_map, max_len]
  refine ⟨rng_fine (by omega) (by omega) (by omega) (by omega), ?_⟩
  rw [Int.toNat_natCast]
  refine wmapN (f := fun j => X.enc (cf x.c j + cf y.c j)) rfl (size_ok (by omega)) (fun j hj => ?_) ?_
  · bv_omega
    rw [lpart_ok h hX]; bv_omega
    rw [lpart_ok h hX]; bv_omega
    rw [lf_add h hX (bdl_get hX hx j) (bdl_get hX hy j) f f']; bv_omega
  · bv_omega
    have e : (tb (max x.c.length y.c.length) fun j => X.enc (cf x.c j + cf y.c j)) = (tb (max x.c.length y.c.length) fun j => cf x.c j + cf y.c j).map X.enc := tb_map.symm
    rw [e, lstrip_ok h.strip h.zero hX rd_scr']; bv_omega
    have : trim (tb (max x.c.length y.c.length) fun j => cf x.c j + cf y.c j) = (x + y).c := by
      refine trim_ext (m := addL x.c y.c) fun j => ?_
      rw [cf_addL]
      by_cases hj : j < max x.c.length y.c.length
      · exact cf_some (tb_get hj)
      · rw [cf_ge (by rw [tb_len]; omega), cf_ge (l := x.c) (by omega), cf_ge (l := y.c) (by omega)]; grind
    rw [this]
theorem rep_one {n : Nat} {x : D} : (List.replicate n [x]).flatten = List.replicate n x := rep1
theorem lp_mul (h : HasLaw P) (hX : IsFld X) {N A N' A' : Nat} {x y : Poly X.T} (hx : BdL X N A x.c) (hy : BdL X N' A' y.c) (f : Fit N A) (f' : Fit N' A') (ff : Fit (N * N') (A * A')) (lx : x.c.length ≤ 100000) (ly : y.c.length ≤ 100000) :
    callF P sub (k + 4) "_law_multiply" [(pDom X).d, (pDom X).enc x, (pDom X).enc y] st = .ok ((pDom X).enc (x * y)) st := by
  apply of_wp
  refine wcall h.mul rfl ?_
  dsimp only [Fn.f__law_multiply]
  simp only [pDom]
  simp_wf
  simp_wf
  simp_wf
  simp_wf
  rw [lzero_f h.zero hX]; bv_omega
  simp only [chk_iff, List.length_map]
  rw [rep_one, show ((x.c.length : Int) + y.c.length).toNat = x.c.length + y.c.length by omega]
  refine ⟨⟨by omega, size_ok (by omega), by omega⟩, ?_⟩
  generalize hL : x.c.length + y.c.length = L
  have e0 : List.replicate L (X.enc 0) = (List.replicate L (0 : X.T)).map X.enc := by rw [List.map_replicate]
  rw [e0]
  have hN : 0 < N * N' := Nat.mul_pos (bdl_pos hX hx) (bdl_pos hX hy)
  have hB : ∀ i j, X.Bd (N * N') (A * A') (cf (mulL (x.c.take i) y.c) j) := fun i j => bdl_get hX (bdl_mul hX (bdl_take hX i hx) hy) j
  rw [wc]; bv_omega
  simp only [List.length_map]
  refine ⟨rng_fine (by omega) (by omega) (by omega) (by omega), ?_⟩
  refine wforN (fun i e s => ∃ (l : List X.T) (z4 z5 : Option D), e = [some (.tup [.str "P", X.d]), some (.tup (x.c.map X.enc)), some (.tup (y.c.map X.enc)), some (.ref st.length), z4, z5] ∧ s = st ++ [.lst (l.map X.enc)] ∧ l.length = L ∧ ∀ j, cf l j = cf (mulL (x.c.take i) y.c) j) (fun _ _ _ _ => rfl) (fun i e s hi hI => ?_) (fun e s hI => ?_) _ _ ⟨List.replicate L 0, none, none, rfl, rfl, by simp, fun j => ?_⟩
  · obtain ⟨l, z4, z5, rfl, rfl, hl, hl2⟩ := hI
    bv_omega
    rw [wc]; bv_omega
    simp only [List.length_map]
    refine ⟨rng_fine (by omega) (by omega) (by omega) (by omega), ?_⟩
    refine wforN (fun j e s => ∃ (l : List X.T) (z5 : Option D), e = [some (.tup [.str "P", X.d]), some (.tup (x.c.map X.enc)), some (.tup (y.c.map X.enc)), some (.ref st.length), some (.int (i : Nat)), z5] ∧ s = st ++ [.lst (l.map X.enc)] ∧ l.length = L ∧ ∀ m, cf l m = if m < i + j then cf (mulL (x.c.take (i + 1)) y.c) m else cf (mulL (x.c.take i) y.c) m) (fun _ _ _ _ => rfl) (fun j e s hj hI => ?_) (fun e s hI => ?_) _ _ ⟨l, z5, rfl, rfl, hl, fun m => ?_⟩
    · clear hl2 hl
      obtain ⟨l, z5, rfl, rfl, hl, hl2⟩ := hI
      bv_omega
      rw [wc]; bv_omega
      rw [at_get (by omega), List.getElem?_map, show ((i : Int) + j).toNat = i + j by omega, at_cf (l := l) (by omega)]; bv_omega
      rw [at_cf (l := x.c) (by omega)]; bv_omega
      rw [at_cf (l := y.c) (by omega)]; bv_omega
      have hli : cf l (i + j) = cf (mulL (x.c.take i) y.c) (i + j) := by rw [hl2, if_neg (by omega)]
      have hnew : cf (mulL (x.c.take i) y.c) (i + j) + cf x.c i * cf y.c j = cf (mulL (x.c.take (i + 1)) y.c) (i + j) := by
        rw [mulL_take hi, if_pos (by omega), show i + j - i = j by omega]
      rw [lf_mul h hX (bdl_get hX hx i) (bdl_get hX hy j) f f']; bv_omega
      rw [hli, lf_add h hX (hB i (i + j)) (fbd_mul hX (bdl_get hX hx i) (bdl_get hX hy j)) ff ff]; bv_omega
      rw [List.length_map, show ((i : Int) + j) = ((i + j : Nat) : Int) by omega, ix_nat (by omega)]; bv_omega
      rw [← List.map_set, hnew]
      refine ⟨l.set (i + j) _, _, rfl, rfl, by rw [List.length_set]; exact hl, fun m => ?_⟩
      rw [cf_set (by omega), hl2 m]
      by_cases e : m = i + j
      · subst e; rw [if_pos rfl, if_pos (by omega)]
      · rw [if_neg e]
        by_cases e2 : m < i + j
        · rw [if_pos e2, if_pos (by omega)]
        · rw [if_neg e2, if_neg (by omega)]
    · clear hl2 hl
      obtain ⟨l, z5, rfl, rfl, hl, hl2⟩ := hI
      bv_omega
      refine ⟨l, some (.int (i : Nat)), z5, rfl, rfl, hl, fun m => ?_⟩
      rw [hl2 m]
      split
      · rfl
      · rw [mulL_take hi, if_pos (by omega), cf_ge (l := y.c) (by omega)]; grind
    · rw [hl2 m]
      split
      · rw [mulL_take hi, if_neg (by omega)]; grind
      · rfl
  · obtain ⟨l, z4, z5, rfl, rfl, hl, hl2⟩ := hI
    bv_omega
    rw [wc]; bv_omega
    rw [lstrip_ok h.strip h.zero hX rd_last]; bv_omega
    refine ⟨?_, gc_snoc (noRef_tupmap hX)⟩
    have : trim l = (x * y).c := by
      refine trim_ext (m := mulL x.c y.c) fun j => ?_
      rw [hl2 j, List.take_length]
    rw [this]
  · rw [cf_rep, List.take_zero, cf_mulL_nil]
end
variable {X : Dom} {l N A l' N' A' : Nat} {x y : X.T}
theorem ld_add (h : HasLaw P) (hX : IsDom X) (hx : X.Bd l N A x) (hy : X.Bd l' N' A' y) (f : DFit l N A) (f' : DFit l' N' A') : callF P sub (k + 4) "_law_add" [X.d, X.enc x, X.enc y] st = .ok (X.enc (x + y)) st := by
  cases hX with
  | Z =>
    have key : ∀ x y : Int, callF P sub (k + 4) "_law_add" [Dm.Z.enc, .int x, .int y] st = .ok (.int (x + y)) st := by
      intro x y
      apply of_wp
      refine wcall h.add rfl ?_
      dsimp only [Fn.f__law_add]
      simp only [Dm.enc]
      simp_wf
      simp_wf
      simp_wf
      simp_wf
    exact key x y
  | fld hX => exact lf_add (k := k + 1) h hX hx hy f.f f'.f
  | P hX => exact lp_add h hX hx.2 hy.2 f.f f'.f (Nat.le_trans hx.1 f.1) (Nat.le_trans hy.1 f'.1)
theorem ld_mul (h : HasLaw P) (hX : IsDom X) (hx : X.Bd l N A x) (hy : X.Bd l' N' A' y) (f : DFit l N A) (f' : DFit l' N' A') (ff : Fit (N * N') (A * A')) : callF P sub (k + 4) "_law_multiply" [X.d, X.enc x, X.enc y] st = .ok (X.enc (x * y)) st := by
  cases hX with
  | Z =>
    have key : ∀ x y : Int, x.natAbs < 2 ^ 2000 → y.natAbs < 2 ^ 2000 → callF P sub (k + 4) "_law_multiply" [Dm.Z.enc, .int x, .int y] st = .ok (.int (x * y)) st := by
      intro x y hx hy
      apply of_wp
      refine wcall h.mul rfl ?_
      dsimp only [Fn.f__law_multiply]
      simp only [Dm.enc]
      simp_wf
      simp_wf
      simp_wf
      simp_wf
      exact fun hn => absurd (mul_okq hx hy) hn
    exact key x y (z_small hx.2 f.2.2) (z_small hy.2 f'.2.2)
  | fld hX => exact lf_mul (k := k + 1) h hX hx hy f.f f'.f
  | P hX => exact lp_mul h hX hx.2 hy.2 f.f f'.f ff (Nat.le_trans hx.1 f.1) (Nat.le_trans hy.1 f'.1)
end
end Lp
-- pre3
namespace Lp
open Lg
local macro_rules
  | `(tactic| bv_omega) => `(tactic| try simp only [exec, evs, evo, evc, evIt, asg, asgs, evt, e_non, e_bl, e_int, e_str, e_var, e_bin, e_neg, e_not, e_cmp, e_and, e_or, e_ite, e_call, e_prim, e_isi, e_ix, e_slice, e_tup, e_lst, e_comp, e_lrange, e_meth, e_chain, e_chain3,
      wn, wp_bind, wp_one, fn_M, q_M, q_R, n_M, ty_M, ty_ML, l_M, e_con, mo_index, e_ladd, madd_ss, e_fnv, e_rev, rev_tup, rev_scr, fn_int, fn_bl, fn_non, fn_str, fn_tup, fn_scr, fn_fro, fn_ref, sz_0, sz_1, sz_2, sz_3, sz_4, sz_5, sz_6, sz_7, sz_8, sz_9, sz_10, sz_11, sz_12, e_isi2, e_lrep, m_rep, e_glob, tb_len, tb_rng, tb_rng2, tb_enum, rd_tup0, rd_tup1, rd_tup2, rd_si, dq_tup, dq_tups, dq_nil, dq_sn, dq_ns, dq_si, dq_is, dq_st, dq_ts, dq_nt, dq_tn, dq_it, dq_ti, dq_ni, dq_in, snoc_get, snoc_set, snoc_len, n_bl, ty_listi, ty_lists, ty_listn, ty_listb, ty_listt, ty_listc, ty_listf, ty_listr, ty_tupc, ty_strc, ty_intc, ty_intt, ty_ints, ty_intn, ty_bools, ty_booln, ty_boolt, ty_boolc, ty_strb, dq_bl, c_isb, c_isnb, n_scr, n_ref,  wp_lift, wp_noexc, wp_ok, wp_exc, wp_bad, bind_ok, lift_ok, wp_ite, conj_bad, b_add, b_addT, b_addL, b_sub, b_mul, b_rep, b_fdiv, b_mod, pw_9, pw_12, pw_15, pw_18, pw_19, pw_20, pw_43, pw_45, b_shl, i_add, i_sub, i_mul, i_fdiv, i_mod, c_eq, c_ne, c_lt, c_le, c_gt, c_ge, c_is, c_isNot, p_len, p_abs, p_min2, p_max2, p_int, p_intb, p_tuple, p_list, p_sum, p_any, p_all,
      q_tup, q_scr, q_fro, l_scr, l_fro, q_ref, l_ref, x_int, t_bl, t_int, t_non, t_tup, t_scr, ty_int, ty_intb, ty_bool, ty_booli, ty_tup, ty_tupi, ty_tupn, ty_tups, ty_str, sl_fro, sl_scr, sl_tup, nl_t, nl_f, k_tup, k_scr, k_fro, k_ref, wipe, s_ref, m_app, ix_40, ix_41, ix_42, ix_43, mo_ref, gd_t, mo_bits, m_bits, at_0, at_1, at_2, at_3, at_last, Option.bind_some, Option.map_some, lit_0, lit_1, lit_2, lit_3, lit_4, lit_5, lit_6, implies_true, Int.zero_add, Int.toNat_natCast, at_nat, List.getElem?_map, rd_int, rd_non, rd_bl, rd_str, dq_int, dq_non, dq_str, n_non, n_int, n_tup, n_str, ty_stri, ty_strn, ty_strt, ty_tupb, t_ref, start,
      List.getElem?_cons_zero, List.getElem?_cons_succ, List.set_cons_zero, List.set_cons_succ, List.map_cons, List.map_nil, List.length_cons, List.length_nil, List.replicate, List.cons_append, List.nil_append, Nat.reduceAdd, Nat.reduceSub, Int.reduceEq, Int.reduceToNat, Int.reduceBEq, Nat.reduceBEq, beq_self_eq_true, Int.reduceBNe, D.bl.injEq, Int.reduceLT, Int.reduceLE, Int.reduceAdd, Int.reduceSub, Int.reduceNeg, String.reduceEq, Nat.reduceEqDiff, gc_self, gc_cell, not_true, not_false_iff, or_self, or_true, true_or, or_false, false_or, and_false, false_and, and_self, eq_self, decide_true, decide_false,
      decide_eq_true_eq, decide_eq_false_iff_not, beq_iff_eq, beq_eq_false_iff_ne, Bool.not_eq_true', Bool.not_eq_false', Bool.not_eq_eq_eq_not, bne_iff_ne, Bool.or_false, Bool.or_true, Bool.false_or, Bool.true_or, Bool.and_false, Bool.and_true, Bool.false_and, Bool.true_and, not_false_eq_true, not_true_eq_false, Bool.not_true, Bool.not_false, true_and, and_true, ne_eq, forall_const, if_true, if_false, true_implies, false_implies, reduceCtorEq, Bool.false_eq_true, Bool.true_eq_false])
local macro_rules
  | `(tactic| simp_wf) => `(tactic| (rw [wc]; bv_omega))
open Lean.Grind Al
/-! ### sums -/
section
variable {R : Type} [CommRing R]
def sumN : Nat → (Nat → R) → R
  | 0, _ => 0
  | n + 1, f => sumN n f + f n
theorem sumN_congr {n : Nat} {f g : Nat → R} (h : ∀ i, i < n → f i = g i) : sumN n f = sumN n g := by
  induction n with
  | zero => rfl
  | succ n ih => rw [sumN, sumN, ih fun i hi => h i (by omega), h n (by omega)]
theorem sumN_add {n : Nat} {f g : Nat → R} : sumN n (fun i => f i + g i) = sumN n f + sumN n g := by
  induction n with
  | zero => simp only [sumN]; grind
  | succ n ih => simp only [sumN, ih]; grind
theorem sumN_zero {n : Nat} : sumN n (fun _ => (0 : R)) = 0 := by
  induction n with
  | zero => rfl
  | succ n ih => simp only [sumN, ih]; grind
theorem sumN_mul {n : Nat} {c : R} {f : Nat → R} : sumN n (fun i => c * f i) = c * sumN n f := by
  induction n with
  | zero => simp only [sumN]; grind
  | succ n ih => simp only [sumN, ih]; grind
theorem sumN_mulr {n : Nat} {c : R} {f : Nat → R} : sumN n (fun i => f i * c) = sumN n f * c := by
  induction n with
  | zero => simp only [sumN]; grind
  | succ n ih => simp only [sumN, ih]; grind
theorem sumN_swap {n m : Nat} {f : Nat → Nat → R} : sumN n (fun i => sumN m fun j => f i j) = sumN m fun j => sumN n fun i => f i j := by
  induction n with
  | zero => simp only [sumN]; rw [sumN_zero]
  | succ n ih => simp only [sumN, ih, sumN_add]
/-! ### matrices: entries by place -/
def mmul (n : Nat) (a b : Nat → Nat → R) (i j : Nat) : R := sumN n fun t => a i t * b t j
def idm (i j : Nat) : R := if i = j then 1 else 0
def mp (n : Nat) (a : Nat → Nat → R) : Nat → Nat → Nat → R
  | 0 => idm
  | k + 1 => mmul n (mp n a k) a
end
structure HasMat (P : Pg) : Prop where
  ring : HasRing P
  dom : HasDom P
  need_domain : P.fn "need_domain" = some Fn.f_need_domain
  one : P.fn "one" = some Fn.f_one
  need_shape : P.fn "need_shape" = some Fn.f_need_shape
section
variable {P : Pg} {sub : String → String → Option Bool} {k : Nat} {st : Store} {Q : D → Store → Prop} {Er : String → Store → Prop} {X : Dom} {l N A l' N' A' m n q : Nat} {a b : Nat → Nat → X.T} {v w : Nat → X.T}
theorem need_X (h : HasMat P) (hX : IsDom X) : callF P sub (k + 4) "need_domain" [X.d] st = .ok .non st := by
  obtain ⟨f, hf, ef⟩ := of_dom hX
  rw [ef]; exact need_domain_ok h.dom h.need_domain hf
theorem sl_M {st : Store} : sliced (encM X m n a) none (some 2) st = .ok (.tup [.int m, .int n]) st := rfl
theorem sumN_bd (hX : IsDom X) {f : Nat → X.T} (hN : 0 < N) (h : ∀ i, i < n → X.Bd l N A (f i)) : X.Bd l N (n * A) (sumN n f) := by
  induction n with
  | zero => exact bd_zero hX hN _
  | succ n ih => rw [Nat.add_mul, Nat.one_mul]; exact bd_add hX (ih fun i hi => h i (by omega)) (h n (by omega))
theorem mmul_bd (hX : IsDom X) (ha : ∀ i j, X.Bd l N A (a i j)) (hb : ∀ i j, X.Bd l' N' A' (b i j)) (i j : Nat) : X.Bd (l + l') (N * N') (n * (A * A')) (mmul n a b i j) :=
  sumN_bd hX (Nat.mul_pos (bd_pos hX (ha 0 0)) (bd_pos hX (hb 0 0))) fun t _ => bd_mul hX (ha i t) (hb t j)
theorem plus_ok (h : HasMat P) (hp : P.fn "plus" = some Fn.f_plus) (hX : IsDom X) (hm : m ≤ 1000) (hn : n ≤ 1000) (ha : ∀ i j, X.Bd l N A (a i j)) (hb : ∀ i j, X.Bd l' N' A' (b i j)) (f : DFit l N A) (f' : DFit l' N' A') :
    callF P sub (k + 5) "plus" [X.d, encM X m n a, encM X m n b] st = .ok (encM X m n fun i j => a i j + b i j) st := by
  apply of_wp
  refine wcall hp rfl ?_
  dsimp only [Fn.f_plus]
  rw [wc]; bv_omega
  rw [need_X h hX]; bv_omega
  rw [wc]; bv_omega
  simp only [sl_M]; bv_omega
  rw [need_shape_ok h.need_shape]; bv_omega
  rw [wc]; bv_omega
  rw [wc]; bv_omega
  try rw [tb_enum]
  refine wforN (fun i e s => ∃ z4 z5 : Option D, e = [some X.d, some (encM X m n a), some (encM X m n b), some (.ref st.length), z4, z5, none, none] ∧ s = st ++ [.lst (tb i fun i => encR X n fun j => a i j + b i j)]) (fun _ _ _ _ => rfl) (fun i e s hi hI => ?_) (fun e s hI => ?_) _ _ ⟨none, none, rfl, rfl⟩
  · obtain ⟨z4, z5, rfl, rfl⟩ := hI
    bv_omega
    rw [wc]; bv_omega
    try rw [tb_enum]
    refine wmapN (f := fun j => X.enc (a i j + b i j)) rfl (size_ok (by omega)) (fun j hj => ?_) ?_
    · bv_omega
      rw [tb_get hi]; bv_omega
      rw [tb_get hj]; bv_omega
      rw [d_add h.ring hX (ha i j) (hb i j) f f']; bv_omega
    · bv_omega
      refine ⟨Nat.lt_of_lt_of_le hi (size_ok (by omega)), _, _, rfl, ?_⟩
      rw [tb_succ]; rfl
  · obtain ⟨z4, z5, rfl, rfl⟩ := hI
    bv_omega
    rw [wc]; bv_omega
    exact ⟨rfl, gc_snoc (pl_noRef (pl_M hX (m := m) (q := n) (a := fun i j => a i j + b i j)))⟩
theorem dot_ok (h : HasMat P) (hd : P.fn "dot" = some Fn.f_dot) (hX : IsDom X) (hn : n ≤ 1000) (hv : ∀ i, X.Bd l N A (v i)) (hw : ∀ i, X.Bd l' N' A' (w i)) (f : DFit l N A) (f' : DFit l' N' A') (ff : DFit (l + l') (N * N') (n * (A * A'))) :
    callF P sub (k + 5) "dot" [X.d, encR X n v, encR X n w] st = .ok (X.enc (sumN n fun t => v t * w t)) st := by
  apply of_wp
  refine wcall hd rfl ?_
  dsimp only [Fn.f_dot]
  have hN : 0 < N * N' := Nat.mul_pos (bd_pos hX (hv 0)) (bd_pos hX (hw 0))
  rw [wc]; bv_omega
  rw [zero_ok h.ring.zero hX]; bv_omega
  rw [wc]; bv_omega
  try rw [tb_enum]
  refine wforN (fun i e s => ∃ z4 z5 : Option D, e = [some X.d, some (encR X n v), some (encR X n w), some (X.enc (sumN i fun t => v t * w t)), z4, z5] ∧ st = s) (fun _ _ _ _ => rfl) (fun i e s hi hI => ?_) (fun e s hI => ?_) _ _ ⟨none, none, rfl, rfl⟩
  · obtain ⟨z4, z5, rfl, rfl⟩ := hI
    bv_omega
    rw [wc]; bv_omega
    rw [tb_get hi]; bv_omega
    have f1 : DFit (l + l') (N * N') (i * (A * A')) := ⟨ff.1, ff.2.1, Nat.lt_of_le_of_lt (Nat.mul_le_mul_right _ (by omega)) ff.2.2⟩
    have f2 : DFit (l + l') (N * N') (A * A') := ⟨ff.1, ff.2.1, Nat.lt_of_le_of_lt (Nat.le_mul_of_pos_left _ (by omega)) ff.2.2⟩
    rw [d_mul h.ring hX (hv i) (hw i) f f' f2.2]; bv_omega
    rw [d_add h.ring hX (sumN_bd hX hN fun t _ => bd_mul hX (hv t) (hw t)) (bd_mul hX (hv i) (hw i)) f1 f2]; bv_omega
    exact ⟨_, _, rfl⟩
  · obtain ⟨z4, z5, rfl, rfl⟩ := hI
    bv_omega
    rw [wc]; bv_omega
theorem transposed_ok (ht : P.fn "transposed" = some Fn.f_transposed) (hX : IsDom X) (hm : m ≤ 1000) (hn : n ≤ 1000) :
    callF P sub (k + 1) "transposed" [encM X m n a] st = .ok (encM X n m fun i j => a j i) st := by
  apply of_wp
  refine wcall ht rfl ?_
  dsimp only [Fn.f_transposed]
  rw [wc]; bv_omega
  refine ⟨rng_fine (by omega) (by omega) (by omega) (by omega), ?_⟩
  refine wmapN (f := fun i => encR X m fun j => a j i) rfl (size_ok (by omega)) (fun i hi => ?_) ?_
  · bv_omega
    refine wmapN (f := fun j => X.enc (a j i)) rfl (size_ok (by omega)) (fun j hj => ?_) ?_
    · bv_omega
      rw [tb_get hi]; bv_omega
    · bv_omega
      rfl
  · bv_omega
    rfl
theorem times_ok (h : HasMat P) (hd : P.fn "dot" = some Fn.f_dot) (htr : P.fn "transposed" = some Fn.f_transposed) (ht : P.fn "times" = some Fn.f_times) (hX : IsDom X) (hm : m ≤ 1000) (hn : n ≤ 1000) (hq : q ≤ 1000) (ha : ∀ i j, X.Bd l N A (a i j)) (hb : ∀ i j, X.Bd l' N' A' (b i j)) (f : DFit l N A) (f' : DFit l' N' A') (ff : DFit (l + l') (N * N') (n * (A * A'))) :
    callF P sub (k + 6) "times" [X.d, encM X m n a, encM X n q b] st = .ok (encM X m q (mmul n a b)) st := by
  apply of_wp
  refine wcall ht rfl ?_
  dsimp only [Fn.f_times]
  rw [wc]; bv_omega
  rw [need_X h hX]; bv_omega
  rw [wc]; bv_omega
  rw [need_shape_ok h.need_shape]; bv_omega
  rw [wc]; bv_omega
  rw [transposed_ok htr hX hn hq]; bv_omega
  rw [wc]; bv_omega
  rw [wc]; bv_omega
  refine wforN (fun i e s => ∃ z5 : Option D, e = [some X.d, some (encM X m n a), some (encM X n q b), some (.tup (tb q fun i => encR X n fun j => b j i)), some (.ref st.length), z5, none] ∧ s = st ++ [.lst (tb i fun i => encR X q (mmul n a b i))]) (fun _ _ _ _ => rfl) (fun i e s hi hI => ?_) (fun e s hI => ?_) _ _ ⟨none, rfl, rfl⟩
  · obtain ⟨z5, rfl, rfl⟩ := hI
    bv_omega
    rw [wc]; bv_omega
    refine wmapN (f := fun j => X.enc (mmul n a b i j)) rfl (size_ok (by omega)) (fun j hj => ?_) ?_
    · bv_omega
      rw [dot_ok h hd hX hn (ha i) (fun t => hb t j) f f' ff]; bv_omega
      rfl
    · bv_omega
      refine ⟨Nat.lt_of_lt_of_le hi (size_ok (by omega)), _, rfl, ?_⟩
      rw [tb_succ]; rfl
  · obtain ⟨z5, rfl, rfl⟩ := hI
    bv_omega
    rw [wc]; bv_omega
    exact ⟨rfl, gc_snoc (pl_noRef (pl_M hX (m := m) (q := q) (a := mmul n a b)))⟩
theorem scaled_ok (h : HasMat P) (hs : P.fn "scaled" = some Fn.f_scaled) (hX : IsDom X) {x : X.T} (hm : m ≤ 1000) (hn : n ≤ 1000) (hx : X.Bd l N A x) (ha : ∀ i j, X.Bd l' N' A' (a i j)) (f : DFit l N A) (f' : DFit l' N' A') (ff : Fit (N * N') (A * A')) :
    callF P sub (k + 5) "scaled" [X.d, X.enc x, encM X m n a] st = .ok (encM X m n fun i j => x * a i j) st := by
  apply of_wp
  refine wcall hs rfl ?_
  dsimp only [Fn.f_scaled]
  rw [wc]; bv_omega
  rw [need_X h hX]; bv_omega
  rw [wc]; bv_omega
  refine wmapN (f := fun i => encR X n fun j => x * a i j) rfl (size_ok (by omega)) (fun i hi => ?_) ?_
  · bv_omega
    refine wmapN (f := fun j => X.enc (x * a i j)) rfl (size_ok (by omega)) (fun j hj => ?_) ?_
    · bv_omega
      rw [d_mul h.ring hX hx (ha i j) f f' ff]; bv_omega
    · bv_omega
      rfl
  · bv_omega
    rfl
theorem identity_ok (h : HasMat P) (hi : P.fn "identity" = some Fn.f_identity) (hX : IsDom X) (hn : n ≤ 1000) :
    callF P sub (k + 5) "identity" [X.d, .int (n : Nat)] st = .ok (encM X n n idm) st := by
  apply of_wp
  refine wcall hi rfl ?_
  dsimp only [Fn.f_identity]
  rw [wc]; bv_omega
  rw [need_X h hX]; bv_omega
  rw [wc]; bv_omega
  rw [wc]; bv_omega
  refine ⟨rng_fine (by omega) (by omega) (by omega) (by omega), ?_⟩
  refine wforN (fun i e s => ∃ z3 : Option D, e = [some X.d, some (.int (n : Nat)), some (.ref st.length), z3, none] ∧ s = st ++ [.lst (tb i fun i => encR X n (idm i))]) (fun _ _ _ _ => rfl) (fun i e s hi hI => ?_) (fun e s hI => ?_) _ _ ⟨none, rfl, rfl⟩
  · obtain ⟨z3, rfl, rfl⟩ := hI
    bv_omega
    rw [wc]; bv_omega
    refine ⟨rng_fine (by omega) (by omega) (by omega) (by omega), ?_⟩
    refine wmapN (f := fun j => X.enc (idm i j)) rfl (size_ok (by omega)) (fun j hj => ?_) ?_
    · bv_omega
      refine ⟨fun e => ?_, fun e => ?_⟩
      · rw [one_ok h.one hX]; bv_omega
        rw [idm, if_pos (by omega)]
      · rw [zero_ok h.ring.zero hX]; bv_omega
        rw [idm, if_neg (by omega)]
    · bv_omega
      refine ⟨Nat.lt_of_lt_of_le hi (size_ok (by omega)), _, rfl, ?_⟩
      rw [tb_succ]; rfl
  · obtain ⟨z3, rfl, rfl⟩ := hI
    bv_omega
    rw [wc]; bv_omega
    exact ⟨rfl, gc_snoc (pl_noRef (pl_M hX (m := n) (q := n) (a := idm)))⟩
end
end Lp
-- pre3
namespace Lp
open Lg
local macro_rules
  | `(tactic| bv_omega) => `(tactic| try simp only [exec, evs, evo, evc, evIt, asg, asgs, evt, e_non, e_bl, e_int, e_str, e_var, e_bin, e_neg, e_not, e_cmp, e_and, e_or, e_ite, e_call, e_prim, e_isi, e_ix, e_slice, e_tup, e_lst, e_comp, e_lrange, e_meth, e_chain, e_chain3,
      wn, wp_bind, wp_one, fn_M, q_M, q_R, n_M, ty_M, ty_ML, l_M, e_con, mo_index, e_ladd, madd_ss, e_fnv, e_rev, rev_tup, rev_scr, fn_int, fn_bl, fn_non, fn_str, fn_tup, fn_scr, fn_fro, fn_ref, sz_0, sz_1, sz_2, sz_3, sz_4, sz_5, sz_6, sz_7, sz_8, sz_9, sz_10, sz_11, sz_12, e_isi2, e_lrep, m_rep, e_glob, tb_len, tb_rng, tb_rng2, tb_enum, rd_tup0, rd_tup1, rd_tup2, rd_si, dq_tup, dq_tups, dq_nil, dq_sn, dq_ns, dq_si, dq_is, dq_st, dq_ts, dq_nt, dq_tn, dq_it, dq_ti, dq_ni, dq_in, snoc_get, snoc_set, snoc_len, n_bl, ty_listi, ty_lists, ty_listn, ty_listb, ty_listt, ty_listc, ty_listf, ty_listr, ty_tupc, ty_strc, ty_intc, ty_intt, ty_ints, ty_intn, ty_bools, ty_booln, ty_boolt, ty_boolc, ty_strb, dq_bl, c_isb, c_isnb, n_scr, n_ref,  wp_lift, wp_noexc, wp_ok, wp_exc, wp_bad, bind_ok, lift_ok, wp_ite, conj_bad, b_add, b_addT, b_addL, b_sub, b_mul, b_rep, b_fdiv, b_mod, pw_9, pw_12, pw_15, pw_18, pw_19, pw_20, pw_43, pw_45, b_shl, i_add, i_sub, i_mul, i_fdiv, i_mod, c_eq, c_ne, c_lt, c_le, c_gt, c_ge, c_is, c_isNot, p_len, p_abs, p_min2, p_max2, p_int, p_intb, p_tuple, p_list, p_sum, p_any, p_all,
      q_tup, q_scr, q_fro, l_scr, l_fro, q_ref, l_ref, x_int, t_bl, t_int, t_non, t_tup, t_scr, ty_int, ty_intb, ty_bool, ty_booli, ty_tup, ty_tupi, ty_tupn, ty_tups, ty_str, sl_fro, sl_scr, sl_tup, nl_t, nl_f, k_tup, k_scr, k_fro, k_ref, wipe, s_ref, m_app, ix_40, ix_41, ix_42, ix_43, mo_ref, gd_t, mo_bits, m_bits, at_0, at_1, at_2, at_3, at_last, Option.bind_some, Option.map_some, lit_0, lit_1, lit_2, lit_3, lit_4, lit_5, lit_6, implies_true, Int.zero_add, Int.toNat_natCast, at_nat, List.getElem?_map, rd_int, rd_non, rd_bl, rd_str, dq_int, dq_non, dq_str, n_non, n_int, n_tup, n_str, ty_stri, ty_strn, ty_strt, ty_tupb, t_ref, start,
      List.getElem?_cons_zero, List.getElem?_cons_succ, List.set_cons_zero, List.set_cons_succ, List.map_cons, List.map_nil, List.length_cons, List.length_nil, List.replicate, List.cons_append, List.nil_append, Nat.reduceAdd, Nat.reduceSub, Int.reduceEq, Int.reduceToNat, Int.reduceBEq, Nat.reduceBEq, beq_self_eq_true, Int.reduceBNe, D.bl.injEq, Int.reduceLT, Int.reduceLE, Int.reduceAdd, Int.reduceSub, Int.reduceNeg, String.reduceEq, Nat.reduceEqDiff, gc_self, gc_cell, not_true, not_false_iff, or_self, or_true, true_or, or_false, false_or, and_false, false_and, and_self, eq_self, decide_true, decide_false,
      decide_eq_true_eq, decide_eq_false_iff_not, beq_iff_eq, beq_eq_false_iff_ne, Bool.not_eq_true', Bool.not_eq_false', Bool.not_eq_eq_eq_not, bne_iff_ne, Bool.or_false, Bool.or_true, Bool.false_or, Bool.true_or, Bool.and_false, Bool.and_true, Bool.false_and, Bool.true_and, not_false_eq_true, not_true_eq_false, Bool.not_true, Bool.not_false, true_and, and_true, ne_eq, forall_const, if_true, if_false, true_implies, false_implies, reduceCtorEq, Bool.false_eq_true, Bool.true_eq_false])
local macro_rules
  | `(tactic| simp_wf) => `(tactic| (rw [wc]; bv_omega))
open Lean.Grind Al
/-- what a whole number stands for -/
def ofI {R : Type} [CommRing R] (n : Int) : R := (ic : IntCast R).intCast n
theorem ofI_0 {R : Type} [CommRing R] : (ofI 0 : R) = 0 := Ring.intCast_zero
theorem ofI_1 {R : Type} [CommRing R] : (ofI 1 : R) = 1 := Ring.intCast_one
theorem ofI_F {p : Nat} [NeZero p] (n : Int) : n.fmod p = ((ofI n : Fin p).val : Int) := by
  have hp : 0 < p := Nat.pos_of_ne_zero (NeZero.ne p)
  show _ = ((@Int.cast (Fin p) (Fin.IntCast.instIntCast p) n).val : Int)
  rw [Fin.intCast_def, Int.fmod_eq_emod_of_nonneg _ (by omega)]
  by_cases h : 0 ≤ n
  · rw [if_pos h]
    show _ = ((n.natAbs % p : Nat) : Int)
    push_cast
    rw [show (n.natAbs : Int) = n by omega]
  · rw [if_neg h, ← fneg_val, Int.fmod_eq_emod_of_nonneg _ (by omega)]
    show _ = (-((n.natAbs % p : Nat) : Int)) % p
    push_cast
    rw [show (n.natAbs : Int) = -n by omega, Int.emod_def (-n) p, show -(-n - (p : Int) * (-n / p)) = n + p * (-n / p) by omega, Int.add_mul_emod_self_left]
section
variable {P : Pg} {sub : String → String → Option Bool} {k : Nat} {st : Store} {Q : D → Store → Prop} {Er : String → Store → Prop} {X : Dom} {l N A l' N' A' m n q : Nat} {a b : Nat → Nat → X.T} {v w : Nat → X.T}
theorem idm_bd (hX : IsDom X) (i j : Nat) : X.Bd 1 1 1 (idm i j : X.T) := by
  unfold idm
  split
  · exact bd_one hX (by decide) (by decide) (by decide)
  · exact bd_zero hX (by decide) _
theorem mp_bd (hX : IsDom X) (ha : ∀ i j, X.Bd l N A (a i j)) : ∀ t i j, X.Bd (l * t + 1) (N ^ t) ((n * A + 1) ^ t) (mp n a t i j)
  | 0, i, j => bd_mono hX (by omega) (Nat.le_refl _) (idm_bd hX i j)
  | t + 1, i, j => by
    have := mmul_bd hX (n := n) (mp_bd hX ha t) ha i j
    refine bd_mono hX (Nat.le_of_eq (by rw [Nat.mul_add]; omega)) ?_ this
    rw [Nat.pow_succ]
    have e : n * ((n * A + 1) ^ t * A) = (n * A + 1) ^ t * (n * A) := by
      rw [Nat.mul_left_comm]
    rw [e]
    exact Nat.mul_le_mul_left _ (by omega)
theorem need_square_ok (hs : P.fn "need_shape" = some Fn.f_need_shape) (h : P.fn "need_square" = some Fn.f_need_square) : callF P sub (k + 2) "need_square" [encM X n n a] st = .ok .non st := by
  apply of_wp
  refine wcall h rfl ?_
  dsimp only [Fn.f_need_square]
  rw [wc]; bv_omega
  rw [need_shape_ok hs]; bv_omega
end
end Lp
-- pre3
namespace Lp
open Lg
local macro_rules
  | `(tactic| bv_omega) => `(tactic| try simp only [exec, evs, evo, evc, evIt, asg, asgs, evt, e_non, e_bl, e_int, e_str, e_var, e_bin, e_neg, e_not, e_cmp, e_and, e_or, e_ite, e_call, e_prim, e_isi, e_ix, e_slice, e_tup, e_lst, e_comp, e_lrange, e_meth, e_chain, e_chain3,
      wn, wp_bind, wp_one, fn_M, q_M, q_R, n_M, ty_M, ty_ML, l_M, e_con, mo_index, e_ladd, madd_ss, e_fnv, e_rev, rev_tup, rev_scr, fn_int, fn_bl, fn_non, fn_str, fn_tup, fn_scr, fn_fro, fn_ref, sz_0, sz_1, sz_2, sz_3, sz_4, sz_5, sz_6, sz_7, sz_8, sz_9, sz_10, sz_11, sz_12, e_isi2, e_lrep, m_rep, e_glob, tb_len, tb_rng, tb_rng2, tb_enum, rd_tup0, rd_tup1, rd_tup2, rd_si, dq_tup, dq_tups, dq_nil, dq_sn, dq_ns, dq_si, dq_is, dq_st, dq_ts, dq_nt, dq_tn, dq_it, dq_ti, dq_ni, dq_in, snoc_get, snoc_set, snoc_len, n_bl, ty_listi, ty_lists, ty_listn, ty_listb, ty_listt, ty_listc, ty_listf, ty_listr, ty_tupc, ty_strc, ty_intc, ty_intt, ty_ints, ty_intn, ty_bools, ty_booln, ty_boolt, ty_boolc, ty_strb, dq_bl, c_isb, c_isnb, n_scr, n_ref,  wp_lift, wp_noexc, wp_ok, wp_exc, wp_bad, bind_ok, lift_ok, wp_ite, conj_bad, b_add, b_addT, b_addL, b_sub, b_mul, b_rep, b_fdiv, b_mod, pw_9, pw_12, pw_15, pw_18, pw_19, pw_20, pw_43, pw_45, b_shl, i_add, i_sub, i_mul, i_fdiv, i_mod, c_eq, c_ne, c_lt, c_le, c_gt, c_ge, c_is, c_isNot, p_len, p_abs, p_min2, p_max2, p_int, p_intb, p_tuple, p_list, p_sum, p_any, p_all,
      q_tup, q_scr, q_fro, l_scr, l_fro, q_ref, l_ref, x_int, t_bl, t_int, t_non, t_tup, t_scr, ty_int, ty_intb, ty_bool, ty_booli, ty_tup, ty_tupi, ty_tupn, ty_tups, ty_str, sl_fro, sl_scr, sl_tup, nl_t, nl_f, k_tup, k_scr, k_fro, k_ref, wipe, s_ref, m_app, ix_40, ix_41, ix_42, ix_43, mo_ref, gd_t, mo_bits, m_bits, at_0, at_1, at_2, at_3, at_last, Option.bind_some, Option.map_some, lit_0, lit_1, lit_2, lit_3, lit_4, lit_5, lit_6, implies_true, Int.zero_add, Int.toNat_natCast, at_nat, List.getElem?_map, rd_int, rd_non, rd_bl, rd_str, dq_int, dq_non, dq_str, n_non, n_int, n_tup, n_str, ty_stri, ty_strn, ty_strt, ty_tupb, t_ref, start,
      List.getElem?_cons_zero, List.getElem?_cons_succ, List.set_cons_zero, List.set_cons_succ, List.map_cons, List.map_nil, List.length_cons, List.length_nil, List.replicate, List.cons_append, List.nil_append, Nat.reduceAdd, Nat.reduceSub, Int.reduceEq, Int.reduceToNat, Int.reduceBEq, Nat.reduceBEq, beq_self_eq_true, Int.reduceBNe, D.bl.injEq, Int.reduceLT, Int.reduceLE, Int.reduceAdd, Int.reduceSub, Int.reduceNeg, String.reduceEq, Nat.reduceEqDiff, gc_self, gc_cell, not_true, not_false_iff, or_self, or_true, true_or, or_false, false_or, and_false, false_and, and_self, eq_self, decide_true, decide_false,
      decide_eq_true_eq, decide_eq_false_iff_not, beq_iff_eq, beq_eq_false_iff_ne, Bool.not_eq_true', Bool.not_eq_false', Bool.not_eq_eq_eq_not, bne_iff_ne, Bool.or_false, Bool.or_true, Bool.false_or, Bool.true_or, Bool.and_false, Bool.and_true, Bool.false_and, Bool.true_and, not_false_eq_true, not_true_eq_false, Bool.not_true, Bool.not_false, true_and, and_true, ne_eq, forall_const, if_true, if_false, true_implies, false_implies, reduceCtorEq, Bool.false_eq_true, Bool.true_eq_false])
local macro_rules
  | `(tactic| simp_wf) => `(tactic| (rw [wc]; bv_omega))
open Lean.Grind Al
section
variable {P : Pg} {sub : String → String → Option Bool} {k : Nat} {st : Store} {Q : D → Store → Prop} {Er : String → Store → Prop} {X : Dom} {l N A l' N' A' m n q : Nat} {a b : Nat → Nat → X.T} {v w : Nat → X.T}
theorem lnumber_f (h : HasLaw P) {Y : Fld} (hY : IsFld Y) {z : Int} : callF P sub (k + 1) "_law_number" [Y.d, .int z] st = .ok (Y.enc (ofI z)) st := by
  apply of_wp
  refine wcall h.number rfl ?_
  dsimp only [Fn.f__law_number]
  cases hY with
  | Q =>
    simp only [qFld, Fd.enc]
    simp_wf
    simp_wf
    rfl
  | F p hp =>
    have := hp.1
    simp only [pFld, Fd.enc]
    simp_wf
    simp_wf
    simp_wf
    refine ⟨by omega, ?_⟩
    rw [ofI_F (p := p) z]; rfl
theorem lnumber_ok (h : HasLaw P) (hX : IsDom X) {z : Int} : callF P sub (k + 3) "_law_number" [X.d, .int z] st = .ok (X.enc (ofI z)) st := by
  cases hX with
  | fld hY => exact lnumber_f (k := k + 2) h hY
  | Z =>
    have key : callF P sub (k + 3) "_law_number" [Dm.Z.enc, .int z] st = .ok (.int z) st := by
      apply of_wp
      refine wcall h.number rfl ?_
      dsimp only [Fn.f__law_number]
      simp only [Dm.enc]
      simp_wf
      simp_wf
      simp_wf
      simp_wf
    exact key
  | @P Y hY =>
    apply of_wp
    refine wcall h.number rfl ?_
    dsimp only [Fn.f__law_number]
    simp only [pDom]
    simp_wf
    simp_wf
    simp_wf
    simp_wf
    rw [lnumber_f h hY]; bv_omega
    have e : [Y.enc (ofI z)] = [ofI z].map Y.enc := rfl
    rw [e, lstrip_ok h.strip h.zero hY rd_scr']; bv_omega
    rfl
theorem ldot_ok (h : HasLaw P) (hd : P.fn "_law_dot" = some Fn.f__law_dot) (hX : IsDom X) (hn : n ≤ 1000) (hv : ∀ i, X.Bd l N A (v i)) (hw : ∀ i, X.Bd l' N' A' (w i)) (f : DFit l N A) (f' : DFit l' N' A') (ff : DFit (l + l') (N * N') (n * (A * A'))) :
    callF P sub (k + 5) "_law_dot" [X.d, encR X n v, encR X n w] st = .ok (X.enc (sumN n fun t => v t * w t)) st := by
  apply of_wp
  refine wcall hd rfl ?_
  dsimp only [Fn.f__law_dot]
  have hN : 0 < N * N' := Nat.mul_pos (bd_pos hX (hv 0)) (bd_pos hX (hw 0))
  rw [wc]; bv_omega
  rw [lzero_ok h.zero hX]; bv_omega
  rw [wc]; bv_omega
  refine ⟨rng_fine (by omega) (by omega) (by omega) (by omega), ?_⟩
  refine wforN (fun i e s => ∃ z4 : Option D, e = [some X.d, some (encR X n v), some (encR X n w), some (X.enc (sumN i fun t => v t * w t)), z4] ∧ st = s) (fun _ _ _ _ => rfl) (fun i e s hi hI => ?_) (fun e s hI => ?_) _ _ ⟨none, rfl, rfl⟩
  · obtain ⟨z4, rfl, rfl⟩ := hI
    bv_omega
    rw [wc]; bv_omega
    rw [tb_get hi]; bv_omega
    rw [tb_get hi]; bv_omega
    have f1 : DFit (l + l') (N * N') (i * (A * A')) := ⟨ff.1, ff.2.1, Nat.lt_of_le_of_lt (Nat.mul_le_mul_right _ (by omega)) ff.2.2⟩
    have f2 : DFit (l + l') (N * N') (A * A') := ⟨ff.1, ff.2.1, Nat.lt_of_le_of_lt (Nat.le_mul_of_pos_left _ (by omega)) ff.2.2⟩
    rw [ld_mul h hX (hv i) (hw i) f f' f2.2]; bv_omega
    rw [ld_add h hX (sumN_bd hX hN fun t _ => bd_mul hX (hv t) (hw t)) (bd_mul hX (hv i) (hw i)) f1 f2]; bv_omega
    exact ⟨_, rfl⟩
  · obtain ⟨z4, rfl, rfl⟩ := hI
    bv_omega
    rw [wc]; bv_omega
theorem lcolumn_ok (hc : P.fn "_law_column" = some Fn.f__law_column) {j : Nat} (hm : m ≤ 1000) (hj : j < n) : callF P sub (k + 1) "_law_column" [encM X m n a, .int (j : Nat)] st = .ok (encR X m fun i => a i j) st := by
  apply of_wp
  refine wcall hc rfl ?_
  dsimp only [Fn.f__law_column]
  rw [wc]; bv_omega
  refine wmapN (f := fun i => X.enc (a i j)) rfl (size_ok (by omega)) (fun i hi => ?_) ?_
  · bv_omega
    rw [tb_get hj]; bv_omega
  · bv_omega
    rfl
theorem lproduct_ok (h : HasLaw P) (hd : P.fn "_law_dot" = some Fn.f__law_dot) (hc : P.fn "_law_column" = some Fn.f__law_column) (hp : P.fn "_law_product" = some Fn.f__law_product) (hX : IsDom X) (hm : m ≤ 1000) (hn : n ≤ 1000) (hq : q ≤ 1000) (ha : ∀ i j, X.Bd l N A (a i j)) (hb : ∀ i j, X.Bd l' N' A' (b i j)) (f : DFit l N A) (f' : DFit l' N' A') (ff : DFit (l + l') (N * N') (n * (A * A'))) :
    callF P sub (k + 6) "_law_product" [X.d, encM X m n a, encM X n q b] st = .ok (encM X m q (mmul n a b)) st := by
  apply of_wp
  refine wcall hp rfl ?_
  dsimp only [Fn.f__law_product]
  rw [wc]; bv_omega
  refine ⟨rng_fine (by omega) (by omega) (by omega) (by omega), ?_⟩
  refine wmapN (f := fun j => encR X n fun i => b i j) rfl (size_ok (by omega)) (fun j hj => ?_) ?_
  · bv_omega
    rw [lcolumn_ok hc (by omega) hj]; bv_omega
  bv_omega
  rw [wc]; bv_omega
  refine wmapN (f := fun i => encR X q (mmul n a b i)) rfl (size_ok (by omega)) (fun i hi => ?_) ?_
  · bv_omega
    refine wmapN (f := fun j => X.enc (mmul n a b i j)) rfl (size_ok (by omega)) (fun j hj => ?_) ?_
    · bv_omega
      rw [ldot_ok h hd hX hn (ha i) (fun t => hb t j) f f' ff]; bv_omega
      rfl
    · bv_omega
      rfl
  · bv_omega
    rfl
theorem lidentity_ok (h : HasLaw P) (hi : P.fn "_law_identity" = some Fn.f__law_identity) (hX : IsDom X) (hn : n ≤ 1000) : callF P sub (k + 4) "_law_identity" [X.d, .int (n : Nat)] st = .ok (encM X n n idm) st := by
  apply of_wp
  refine wcall hi rfl ?_
  dsimp only [Fn.f__law_identity]
  rw [wc]; bv_omega
  rw [lnumber_ok h hX]; bv_omega
  rw [lnumber_ok h hX]; bv_omega
  rw [ofI_0, ofI_1]
  rw [wc]; bv_omega
  refine ⟨rng_fine (by omega) (by omega) (by omega) (by omega), ?_⟩
  refine wmapN (f := fun i => encR X n (idm i)) rfl (size_ok (by omega)) (fun i hi => ?_) ?_
  · bv_omega
    refine ⟨rng_fine (by omega) (by omega) (by omega) (by omega), ?_⟩
    refine wmapN (f := fun j => X.enc (idm i j)) rfl (size_ok (by omega)) (fun j hj => ?_) ?_
    · bv_omega
      by_cases e : i = j
      · subst e
        bv_omega
        rw [idm, if_pos rfl]
      · rw [if_neg (by omega)]; bv_omega
        rw [idm, if_neg e]
    · bv_omega
      rfl
  · bv_omega
    rfl
/-! plain tuples -/
end
end Lp
-- pre3
namespace Lp
open Lg
local macro_rules
  | `(tactic| bv_omega) => `(tactic| try simp only [exec, evs, evo, evc, evIt, asg, asgs, evt, e_non, e_bl, e_int, e_str, e_var, e_bin, e_neg, e_not, e_cmp, e_and, e_or, e_ite, e_call, e_prim, e_isi, e_ix, e_slice, e_tup, e_lst, e_comp, e_lrange, e_meth, e_chain, e_chain3,
      wn, wp_bind, wp_one, fn_M, q_M, q_R, n_M, ty_M, ty_ML, l_M, e_con, mo_index, e_ladd, madd_ss, e_fnv, e_rev, rev_tup, rev_scr, fn_int, fn_bl, fn_non, fn_str, fn_tup, fn_scr, fn_fro, fn_ref, sz_0, sz_1, sz_2, sz_3, sz_4, sz_5, sz_6, sz_7, sz_8, sz_9, sz_10, sz_11, sz_12, e_isi2, e_lrep, m_rep, e_glob, tb_len, tb_rng, tb_rng2, tb_enum, rd_tup0, rd_tup1, rd_tup2, rd_si, dq_tup, dq_tups, dq_nil, dq_sn, dq_ns, dq_si, dq_is, dq_st, dq_ts, dq_nt, dq_tn, dq_it, dq_ti, dq_ni, dq_in, snoc_get, snoc_set, snoc_len, n_bl, ty_listi, ty_lists, ty_listn, ty_listb, ty_listt, ty_listc, ty_listf, ty_listr, ty_tupc, ty_strc, ty_intc, ty_intt, ty_ints, ty_intn, ty_bools, ty_booln, ty_boolt, ty_boolc, ty_strb, dq_bl, c_isb, c_isnb, n_scr, n_ref,  wp_lift, wp_noexc, wp_ok, wp_exc, wp_bad, bind_ok, lift_ok, wp_ite, conj_bad, b_add, b_addT, b_addL, b_sub, b_mul, b_rep, b_fdiv, b_mod, pw_9, pw_12, pw_15, pw_18, pw_19, pw_20, pw_43, pw_45, b_shl, i_add, i_sub, i_mul, i_fdiv, i_mod, c_eq, c_ne, c_lt, c_le, c_gt, c_ge, c_is, c_isNot, p_len, p_abs, p_min2, p_max2, p_int, p_intb, p_tuple, p_list, p_sum, p_any, p_all,
      q_tup, q_scr, q_fro, l_scr, l_fro, q_ref, l_ref, x_int, t_bl, t_int, t_non, t_tup, t_scr, ty_int, ty_intb, ty_bool, ty_booli, ty_tup, ty_tupi, ty_tupn, ty_tups, ty_str, sl_fro, sl_scr, sl_tup, nl_t, nl_f, k_tup, k_scr, k_fro, k_ref, wipe, s_ref, m_app, ix_40, ix_41, ix_42, ix_43, mo_ref, gd_t, mo_bits, m_bits, at_0, at_1, at_2, at_3, at_last, Option.bind_some, Option.map_some, lit_0, lit_1, lit_2, lit_3, lit_4, lit_5, lit_6, implies_true, Int.zero_add, Int.toNat_natCast, at_nat, List.getElem?_map, rd_int, rd_non, rd_bl, rd_str, dq_int, dq_non, dq_str, n_non, n_int, n_tup, n_str, ty_stri, ty_strn, ty_strt, ty_tupb, t_ref, start,
      List.getElem?_cons_zero, List.getElem?_cons_succ, List.set_cons_zero, List.set_cons_succ, List.map_cons, List.map_nil, List.length_cons, List.length_nil, List.replicate, List.cons_append, List.nil_append, Nat.reduceAdd, Nat.reduceSub, Int.reduceEq, Int.reduceToNat, Int.reduceBEq, Nat.reduceBEq, beq_self_eq_true, Int.reduceBNe, D.bl.injEq, Int.reduceLT, Int.reduceLE, Int.reduceAdd, Int.reduceSub, Int.reduceNeg, String.reduceEq, Nat.reduceEqDiff, gc_self, gc_cell, not_true, not_false_iff, or_self, or_true, true_or, or_false, false_or, and_false, false_and, and_self, eq_self, decide_true, decide_false,
      decide_eq_true_eq, decide_eq_false_iff_not, beq_iff_eq, beq_eq_false_iff_ne, Bool.not_eq_true', Bool.not_eq_false', Bool.not_eq_eq_eq_not, bne_iff_ne, Bool.or_false, Bool.or_true, Bool.false_or, Bool.true_or, Bool.and_false, Bool.and_true, Bool.false_and, Bool.true_and, not_false_eq_true, not_true_eq_false, Bool.not_true, Bool.not_false, true_and, and_true, ne_eq, forall_const, if_true, if_false, true_implies, false_implies, reduceCtorEq, Bool.false_eq_true, Bool.true_eq_false])
local macro_rules
  | `(tactic| simp_wf) => `(tactic| (rw [wc]; bv_omega))
open Lean.Grind Al
end Lp
-- pre3
namespace Lp
open Lg
local macro_rules
  | `(tactic| bv_omega) => `(tactic| try simp only [exec, evs, evo, evc, evIt, asg, asgs, evt, e_non, e_bl, e_int, e_str, e_var, e_bin, e_neg, e_not, e_cmp, e_and, e_or, e_ite, e_call, e_prim, e_isi, e_ix, e_slice, e_tup, e_lst, e_comp, e_lrange, e_meth, e_chain, e_chain3,
      wn, wp_bind, wp_one, fn_M, q_M, q_R, n_M, ty_M, ty_ML, l_M, e_con, mo_index, e_ladd, madd_ss, e_fnv, e_rev, rev_tup, rev_scr, fn_int, fn_bl, fn_non, fn_str, fn_tup, fn_scr, fn_fro, fn_ref, sz_0, sz_1, sz_2, sz_3, sz_4, sz_5, sz_6, sz_7, sz_8, sz_9, sz_10, sz_11, sz_12, e_isi2, e_lrep, m_rep, e_glob, tb_len, tb_rng, tb_rng2, tb_enum, rd_tup0, rd_tup1, rd_tup2, rd_si, dq_tup, dq_tups, dq_nil, dq_sn, dq_ns, dq_si, dq_is, dq_st, dq_ts, dq_nt, dq_tn, dq_it, dq_ti, dq_ni, dq_in, snoc_get, snoc_set, snoc_len, n_bl, ty_listi, ty_lists, ty_listn, ty_listb, ty_listt, ty_listc, ty_listf, ty_listr, ty_tupc, ty_strc, ty_intc, ty_intt, ty_ints, ty_intn, ty_bools, ty_booln, ty_boolt, ty_boolc, ty_strb, dq_bl, c_isb, c_isnb, n_scr, n_ref,  wp_lift, wp_noexc, wp_ok, wp_exc, wp_bad, bind_ok, lift_ok, wp_ite, conj_bad, b_add, b_addT, b_addL, b_sub, b_mul, b_rep, b_fdiv, b_mod, pw_9, pw_12, pw_15, pw_18, pw_19, pw_20, pw_43, pw_45, b_shl, i_add, i_sub, i_mul, i_fdiv, i_mod, c_eq, c_ne, c_lt, c_le, c_gt, c_ge, c_is, c_isNot, p_len, p_abs, p_min2, p_max2, p_int, p_intb, p_tuple, p_list, p_sum, p_any, p_all,
      q_tup, q_scr, q_fro, l_scr, l_fro, q_ref, l_ref, x_int, t_bl, t_int, t_non, t_tup, t_scr, ty_int, ty_intb, ty_bool, ty_booli, ty_tup, ty_tupi, ty_tupn, ty_tups, ty_str, sl_fro, sl_scr, sl_tup, nl_t, nl_f, k_tup, k_scr, k_fro, k_ref, wipe, s_ref, m_app, ix_40, ix_41, ix_42, ix_43, mo_ref, gd_t, mo_bits, m_bits, at_0, at_1, at_2, at_3, at_last, Option.bind_some, Option.map_some, lit_0, lit_1, lit_2, lit_3, lit_4, lit_5, lit_6, implies_true, Int.zero_add, Int.toNat_natCast, at_nat, List.getElem?_map, rd_int, rd_non, rd_bl, rd_str, dq_int, dq_non, dq_str, n_non, n_int, n_tup, n_str, ty_stri, ty_strn, ty_strt, ty_tupb, t_ref, start,
      List.getElem?_cons_zero, List.getElem?_cons_succ, List.set_cons_zero, List.set_cons_succ, List.map_cons, List.map_nil, List.length_cons, List.length_nil, List.replicate, List.cons_append, List.nil_append, Nat.reduceAdd, Nat.reduceSub, Int.reduceEq, Int.reduceToNat, Int.reduceBEq, Nat.reduceBEq, beq_self_eq_true, Int.reduceBNe, D.bl.injEq, Int.reduceLT, Int.reduceLE, Int.reduceAdd, Int.reduceSub, Int.reduceNeg, String.reduceEq, Nat.reduceEqDiff, gc_self, gc_cell, not_true, not_false_iff, or_self, or_true, true_or, or_false, false_or, and_false, false_and, and_self, eq_self, decide_true, decide_false,
      decide_eq_true_eq, decide_eq_false_iff_not, beq_iff_eq, beq_eq_false_iff_ne, Bool.not_eq_true', Bool.not_eq_false', Bool.not_eq_eq_eq_not, bne_iff_ne, Bool.or_false, Bool.or_true, Bool.false_or, Bool.true_or, Bool.and_false, Bool.and_true, Bool.false_and, Bool.true_and, not_false_eq_true, not_true_eq_false, Bool.not_true, Bool.not_false, true_and, and_true, ne_eq, forall_const, if_true, if_false, true_implies, false_implies, reduceCtorEq, Bool.false_eq_true, Bool.true_eq_false])
local macro_rules
  | `(tactic| simp_wf) => `(tactic| (rw [wc]; bv_omega))
open Lean.Grind Al
/-- small enough for a product -/
def Ok2 (X : Dom) (x y : X.T) : Prop := ∃ l N A l' N' A', X.Bd l N A x ∧ X.Bd l' N' A' y ∧ DFit l N A ∧ DFit l' N' A' ∧ Fit (N * N') (A * A')
def pw {R : Type} [CommRing R] (x : R) : Nat → R
  | 0 => 1
  | t + 1 => pw x t * x
theorem pw_add {R : Type} [CommRing R] (x : R) (a : Nat) : ∀ b, pw x (a + b) = pw x a * pw x b
  | 0 => by simp only [Nat.add_zero, pw]; grind
  | b + 1 => by
    have := pw_add x a b
    simp only [← Nat.add_assoc, pw, this]; grind
theorem pw_1 {R : Type} [CommRing R] (x : R) : pw x 1 = x := by simp only [pw]; grind
section
variable {P : Pg} {sub : String → String → Option Bool} {k : Nat} {st : Store} {Q : D → Store → Prop} {Er : String → Store → Prop} {X : Dom} {l N A l' N' A' : Nat} {x y : X.T}
theorem lm2 (h : HasLaw P) (hX : IsDom X) (o : Ok2 X x y) : callF P sub (k + 4) "_law_multiply" [X.d, X.enc x, X.enc y] st = .ok (X.enc (x * y)) st := by
  obtain ⟨l, N, A, l', N', A', h1, h2, f1, f2, ff⟩ := o
  exact ld_mul h hX h1 h2 f1 f2 ff
theorem lpower_ok (h : HasLaw P) (hp : P.fn "_law_power" = some Fn.f__law_power) (hX : IsDom X) {e : Nat} (h1 : ∀ i, 2 ^ i ≤ e → Ok2 X (pw x (2 ^ i)) (pw x (2 ^ i))) (h2 : ∀ i r, r + 2 ^ i ≤ e → Ok2 X (pw x r) (pw x (2 ^ i))) :
    callF P sub (k + 5) "_law_power" [X.d, X.enc x, .int (e : Nat)] st = .ok (X.enc (pw x e)) st := by
  apply of_wp
  refine wcall hp rfl ?_
  dsimp only [Fn.f__law_power]
  simp_wf
  rw [lnumber_ok (k := k + 1) h hX]; bv_omega
  rw [ofI_1]
  rw [wc]; simp only [exec]
  refine wwhile (fun m env s => ∃ (i r : Nat), st = s ∧ r + 2 ^ i * m = e ∧ env = [some X.d, some (X.enc (pw x (2 ^ i))), some (.int (m : Nat)), some (X.enc (pw x r))]) ?_ _ _ _ ⟨0, 0, rfl, (by omega : 0 + 1 * e = e), by rw [pw_1]; rfl⟩
  rintro m env s ⟨i, r, rfl, h3, rfl⟩
  bv_omega
  refine ⟨fun h0 => ?_, fun h0 => ?_⟩
  · have hp1 : 2 ^ i * 1 ≤ 2 ^ i * m := Nat.mul_le_mul_left _ (by omega)
    rw [wc]
    refine wjoin (fun env s => st = s ∧ env = [some X.d, some (X.enc (pw x (2 ^ i))), some (.int (m : Nat)), some (X.enc (pw x (r + 2 ^ i * (m % 2))))]) ?_ ?_
    · bv_omega
      have e2 : (m : Int).fmod 2 = ((m % 2 : Nat) : Int) := by rw [Int.fmod_eq_emod_of_nonneg _ (by omega)]; omega
      rw [e2]
      refine ⟨fun hodd => ?_, fun hev => ?_⟩
      · simp_wf
        rw [lm2 h hX (h2 i r (by omega))]; bv_omega
        rw [show m % 2 = 1 by omega, Nat.mul_one, pw_add]
      · rw [show m % 2 = 0 by omega, Nat.mul_zero, Nat.add_zero]
    · rintro env s ⟨rfl, rfl⟩
      rw [wc]; bv_omega
      rw [lm2 h hX (h1 i (by omega))]; bv_omega
      rw [wc]; bv_omega
      have e3 : (m : Int).fdiv 2 = ((m / 2 : Nat) : Int) := by rw [Int.fdiv_eq_ediv_of_nonneg _ (by omega)]; omega
      rw [e3]
      refine ⟨div_ok (by decide), m / 2, by omega, i + 1, r + 2 ^ i * (m % 2), ?_, ?_⟩
      · rw [← h3, Nat.pow_succ, Nat.mul_assoc, Nat.add_assoc, ← Nat.mul_add, Nat.mod_add_div]
      · rw [← pw_add, ← Nat.two_mul, Nat.pow_succ, Nat.mul_comm 2]
  · simp_wf
    have : m = 0 := by omega
    subst this
    rw [show r = e by omega]
theorem fromint_f (h : HasRing P) (hf : P.fn "from_integer" = some Fn.f_from_integer) {Y : Fld} (hY : IsFld Y) {z : Int} : callF P sub (k + 1) "from_integer" [Y.d, .int z] st = .ok (Y.enc (ofI z)) st := by
  apply of_wp
  refine wcall hf rfl ?_
  dsimp only [Fn.f_from_integer]
  cases hY with
  | Q =>
    simp only [qFld, Fd.enc]
    simp_wf
    simp_wf
    simp_wf
    rfl
  | F p hp =>
    have := hp.1
    simp only [pFld, Fd.enc]
    simp_wf
    simp_wf
    simp_wf
    simp_wf
    refine ⟨by omega, ?_⟩
    rw [ofI_F (p := p) z]; rfl
end
theorem ofI_add {R : Type} [CommRing R] (a b : Int) : (ofI (a + b) : R) = ofI a + ofI b := Ring.intCast_add a b
theorem ofI_mul {R : Type} [CommRing R] (a b : Int) : (ofI (a * b) : R) = ofI a * ofI b := Ring.intCast_mul a b
end Lp
namespace Lp
open Lg
local macro_rules
  | `(tactic| bv_omega) => `(tactic| try simp only [exec, evs, evo, evc, evIt, asg, asgs, evt, e_non, e_bl, e_int, e_str, e_var, e_bin, e_neg, e_not, e_cmp, e_and, e_or, e_ite, e_call, e_prim, e_isi, e_ix, e_slice, e_tup, e_lst, e_comp, e_lrange, e_meth, e_chain, e_chain3,
      wn, wp_bind, wp_one, e_con, mo_index, e_ladd, madd_ss, e_fnv, e_rev, rev_tup, rev_scr, fn_int, fn_bl, fn_non, fn_str, fn_tup, fn_scr, fn_fro, fn_ref, sz_0, sz_1, sz_2, sz_3, sz_4, sz_5, sz_6, sz_7, sz_8, sz_9, sz_10, sz_11, sz_12, e_isi2, e_lrep, m_rep, e_glob, tb_len, tb_rng, tb_rng2, tb_enum, rd_tup0, rd_tup1, rd_tup2, rd_si, dq_tup, dq_tups, dq_nil, dq_sn, dq_ns, dq_si, dq_is, dq_st, dq_ts, dq_nt, dq_tn, dq_it, dq_ti, dq_ni, dq_in, snoc_get, snoc_set, snoc_len, n_bl, ty_listi, ty_lists, ty_listn, ty_listb, ty_listt, ty_listc, ty_listf, ty_listr, ty_tupc, ty_strc, ty_intc, ty_intt, ty_ints, ty_intn, ty_bools, ty_booln, ty_boolt, ty_boolc, ty_strb, dq_bl, c_isb, c_isnb, n_scr, n_ref,  wp_lift, wp_noexc, wp_ok, wp_exc, wp_bad, bind_ok, lift_ok, wp_ite, conj_bad, b_add, b_addT, b_addL, b_sub, b_mul, b_rep, b_fdiv, b_mod, pw_9, pw_12, pw_15, pw_18, pw_19, pw_20, pw_43, pw_45, b_shl, i_add, i_sub, i_mul, i_fdiv, i_mod, c_eq, c_ne, c_lt, c_le, c_gt, c_ge, c_is, c_isNot, p_len, p_abs, p_min2, p_max2, p_int, p_intb, p_tuple, p_list, p_sum, p_any, p_all,
      q_tup, q_scr, q_fro, l_scr, l_fro, q_ref, l_ref, x_int, t_bl, t_int, t_non, t_tup, t_scr, ty_int, ty_intb, ty_bool, ty_booli, ty_tup, ty_tupi, ty_tupn, ty_tups, ty_str, sl_fro, sl_scr, sl_tup, nl_t, nl_f, k_tup, k_scr, k_fro, k_ref, wipe, s_ref, m_app, ix_40, ix_41, ix_42, ix_43, mo_ref, gd_t, mo_bits, m_bits, at_0, at_1, at_2, at_3, at_last, Option.bind_some, Option.map_some, lit_0, lit_1, lit_2, lit_3, lit_4, lit_5, lit_6, implies_true, Int.zero_add, Int.toNat_natCast, at_nat, List.getElem?_map, rd_int, rd_non, rd_bl, rd_str, dq_int, dq_non, dq_str, n_non, n_int, n_tup, n_str, ty_stri, ty_strn, ty_strt, ty_tupb, t_ref, start,
      List.getElem?_cons_zero, List.getElem?_cons_succ, List.set_cons_zero, List.set_cons_succ, List.map_cons, List.map_nil, List.length_cons, List.length_nil, List.replicate, List.cons_append, List.nil_append, Nat.reduceAdd, Nat.reduceSub, Int.reduceEq, Int.reduceToNat, Int.reduceBEq, Nat.reduceBEq, beq_self_eq_true, Int.reduceBNe, D.bl.injEq, Int.reduceLT, Int.reduceLE, Int.reduceAdd, Int.reduceSub, Int.reduceNeg, String.reduceEq, Nat.reduceEqDiff, gc_self, gc_cell, not_true, not_false_iff, or_self, or_true, true_or, or_false, false_or, and_false, false_and, and_self, eq_self, decide_true, decide_false,
      decide_eq_true_eq, decide_eq_false_iff_not, beq_iff_eq, beq_eq_false_iff_ne, Bool.not_eq_true', Bool.not_eq_false', Bool.not_eq_eq_eq_not, bne_iff_ne, Bool.or_false, Bool.or_true, Bool.false_or, Bool.true_or, Bool.and_false, Bool.and_true, Bool.false_and, Bool.true_and, not_false_eq_true, not_true_eq_false, Bool.not_true, Bool.not_false, true_and, and_true, ne_eq, forall_const, if_true, if_false, true_implies, false_implies, reduceCtorEq, Bool.false_eq_true, Bool.true_eq_false])
local macro_rules
  | `(tactic| simp_wf) => `(tactic| (rw [wc]; bv_omega))
/-! ### greatest common divisors with their coefficients -/
structure Bz (A B x y : Int) (s1 t1 s2 t2 : Int) : Prop where
  hx : x = s1 * A + t1 * B
  hy : y = s2 * A + t2 * B
  ss : s1 * s2 ≤ 0
  tt : t1 * t2 ≤ 0
  bs : x * s2.natAbs + y * s1.natAbs = B
  bt : x * t2.natAbs + y * t1.natAbs = A
theorem abs_step {p q : Int} (h : p * q ≤ 0) {k : Int} (hk : 0 ≤ k) : ((p - k * q).natAbs : Int) = p.natAbs + k * q.natAbs ∧ q * (p - k * q) ≤ 0 := by
  have hkq : 0 ≤ k * q ∨ k * q ≤ 0 := by omega
  have e : q * (p - k * q) = p * q - k * (q * q) := by grind
  have hq : 0 ≤ k * (q * q) := Int.mul_nonneg hk (by
    rcases Int.le_total 0 q with h | h
    · exact Int.mul_nonneg h h
    · have := Int.mul_nonneg (show 0 ≤ -q by omega) (show 0 ≤ -q by omega)
      rw [Int.neg_mul_neg] at this; exact this)
  refine ⟨?_, by omega⟩
  rcases Int.lt_trichotomy q 0 with hq0 | hq0 | hq0
  · have hp : 0 ≤ p := by
      rcases Int.lt_or_le p 0 with h2 | h2
      · have := Int.mul_pos (show 0 < -p by omega) (show 0 < -q by omega)
        rw [Int.neg_mul_neg] at this; omega
      · exact h2
    have : k * q ≤ 0 := Int.mul_nonpos_of_nonneg_of_nonpos hk (by omega)
    have e2 : (q.natAbs : Int) = -q := by omega
    have e3 : k * (q.natAbs : Int) = -(k * q) := by rw [e2]; grind
    omega
  · subst hq0; simp
  · have hp : p ≤ 0 := by
      rcases Int.lt_or_le 0 p with h2 | h2
      · have := Int.mul_pos h2 hq0; omega
      · exact h2
    have : 0 ≤ k * q := Int.mul_nonneg hk (by omega)
    have e2 : (q.natAbs : Int) = q := by omega
    have e3 : k * (q.natAbs : Int) = k * q := by rw [e2]
    omega
theorem fdiv_mod {x y : Int} (hy : 0 < y) : x - x.fdiv y * y = x.fmod y := by
  have := Int.mul_fdiv_add_fmod x y
  grind
theorem Bz.step {A B x y s1 t1 s2 t2 : Int} (h : Bz A B x y s1 t1 s2 t2) (hx : 0 ≤ x) (hy : 0 < y) : Bz A B y (x - x.fdiv y * y) s2 t2 (s1 - x.fdiv y * s2) (t1 - x.fdiv y * t2) := by
  have hk : 0 ≤ x.fdiv y := by
    rw [Int.fdiv_eq_ediv_of_nonneg _ (by omega)]; exact Int.ediv_nonneg hx (by omega)
  obtain ⟨e1, e2⟩ := abs_step h.ss hk
  obtain ⟨e3, e4⟩ := abs_step h.tt hk
  generalize x.fdiv y = k at *
  refine ⟨h.hy, ?_, e2, e4, ?_, ?_⟩
  · rw [h.hx, h.hy]; grind
  · rw [e1]; have := h.bs; grind
  · rw [e3]; have := h.bt; grind
theorem Bz.small {A B x y s1 t1 s2 t2 : Int} (h : Bz A B x y s1 t1 s2 t2) (hx : 0 < x) (hy : 0 ≤ y) : (s2.natAbs : Int) ≤ B ∧ (t2.natAbs : Int) ≤ A := by
  have h1 := h.bs
  have h2 := h.bt
  have g1 : 0 ≤ y * (s1.natAbs : Int) := Int.mul_nonneg hy (by omega)
  have g2 : 0 ≤ y * (t1.natAbs : Int) := Int.mul_nonneg hy (by omega)
  have g3 : 1 * (s2.natAbs : Int) ≤ x * s2.natAbs := Int.mul_le_mul_of_nonneg_right (by omega) (by omega)
  have g4 : 1 * (t2.natAbs : Int) ≤ x * t2.natAbs := Int.mul_le_mul_of_nonneg_right (by omega) (by omega)
  omega
section
variable {P : Pg} {sub : String → String → Option Bool} {k : Nat} {st : Store}
theorem common_ok (h : P.fn "common" = some Fn.f_common) (a b : Int) (ha : a.natAbs < 2 ^ 2000) (hb : b.natAbs < 2 ^ 2000) :
    wp (callF P sub (k + 1) "common" [.int a, .int b] st) (fun d st' => ∃ s t : Int, d = .tup [.int (Int.gcd a b), .int s, .int t] ∧ s * a + t * b = Int.gcd a b ∧ s.natAbs < 2 ^ 2001 ∧ st = st') NE := by
  refine wcall h rfl ?_
  dsimp only [Fn.f_common]
  rw [wc]
  refine wjoin (fun e s => e = [some (.int a), some (.int b), none, none, none, none, none, none] ∧ s = st ∧ ¬(a = 0 ∧ b = 0)) ?_ ?_
  · bv_omega
    refine ⟨fun h1 => ⟨fun h2 => ?_, fun h2 => by omega⟩, fun h1 => by omega⟩
    subst h1 h2
    rw [wc]; bv_omega
    exact ⟨0, 0, by simp, by simp, by decide⟩
  rintro e s ⟨rfl, rfl, h00⟩
  rw [wc]
  refine wjoin (fun e s' => e = [some (.int a), some (.int b), none, none, none, none, none, none] ∧ s' = s ∧ b ≠ 0) ?_ ?_
  · bv_omega
    refine ⟨fun h1 => ?_, fun h1 => h1⟩
    subst h1
    rw [wc]; bv_omega
    refine ⟨fun h2 => ⟨1, 0, ?_, ?_, by decide⟩, fun h2 => ⟨-1, 0, ?_, ?_, by decide⟩⟩
    · rw [abs_if, Int.gcd_zero_right]
    · rw [Int.gcd_zero_right]; omega
    · rw [abs_if, Int.gcd_zero_right]
    · rw [Int.gcd_zero_right]; omega
  rintro e s' ⟨rfl, rfl, hb0⟩
  rw [wc]
  refine wjoin (fun e s'' => e = [some (.int a), some (.int b), none, none, none, none, none, none] ∧ s'' = s' ∧ a ≠ 0) ?_ ?_
  · bv_omega
    refine ⟨fun h1 => ?_, fun h1 => h1⟩
    subst h1
    rw [wc]; bv_omega
    refine ⟨fun h2 => ⟨0, 1, ?_, ?_, by decide⟩, fun h2 => ⟨0, -1, ?_, ?_, by decide⟩⟩
    · rw [abs_if, Int.gcd_zero_left]
    · rw [Int.gcd_zero_left]; omega
    · rw [abs_if, Int.gcd_zero_left]
    · rw [Int.gcd_zero_left]; omega
  rintro e s'' ⟨rfl, rfl, ha0⟩
  rw [wc]; bv_omega
  skip
  rw [wc]; bv_omega
  skip
  rw [abs_if, abs_if]
  rw [wc]; simp only [exec]
  refine wwhile (fun n env s => ∃ (x y s1 t1 s2 t2 : Int) (z : Option D), 0 < x ∧ 0 ≤ y ∧ y.toNat = n ∧ x ≤ max a.natAbs b.natAbs ∧ y ≤ max a.natAbs b.natAbs ∧ Int.gcd x y = Int.gcd a b ∧ Bz a.natAbs b.natAbs x y s1 t1 s2 t2 ∧ s1.natAbs ≤ b.natAbs ∧ env = [some (.int a), some (.int b), some (.tup [.int x, .int s1, .int t1]), some (.tup [.int y, .int s2, .int t2]), z, none, none, none] ∧ s = s'') ?_ _ _ _
    ⟨_, _, _, _, _, _, _, ?_, ?_, rfl, ?_, ?_, ?_, ⟨?_, ?_, by decide, by decide, ?_, ?_⟩, ?_, rfl, rfl⟩
  · rintro n env s ⟨x, y, s1, t1, s2, t2, z, hx, hy, hn, hxm, hym, hg, hB, hs1, rfl, rfl⟩
    have hsm := hB.small hx hy
    bv_omega
    refine ⟨fun h0 => ?_, fun h0 => ?_⟩
    · have hq0 : 0 ≤ x.fdiv y ∧ x.fdiv y ≤ x := by
        rw [Int.fdiv_eq_ediv_of_nonneg _ hy]
        exact ⟨Int.ediv_nonneg (by omega) hy, Int.ediv_le_self _ (by omega)⟩
      have hf := fmod_pos (x := x) (y := y) (by omega)
      rw [wc]; bv_omega
      refine ⟨⟨h0, div_big (by omega)⟩, ?_⟩
      rw [wc]; bv_omega
      refine ⟨mul_big (by omega) (by omega), mul_big (by omega) (by omega), mul_big (by omega) (by omega), ?_⟩
      have hB' := hB.step (by omega) (show 0 < y by omega)
      have e1 : x - x.fdiv y * y = x.fmod y := fdiv_mod (by omega)
      refine ⟨(x - x.fdiv y * y).toNat, by omega, y, _, s2, t2, _, _, _, by omega, by omega, rfl, hym, by omega, ?_, hB', by omega, rfl⟩
      · rw [e1, gcd_step (by omega) hy, hg]
    · subst h0
      have hgx : (Int.gcd a b : Int) = x := by rw [← hg, Int.gcd_zero_right]; omega
      have hsa := hB.hx
      rw [wc]; bv_omega
      rw [wc]; bv_omega
      have key : ∀ (s t : Int), (s = s1 ∧ 0 < a ∨ s = -s1 ∧ ¬0 < a) → (t = t1 ∧ 0 < b ∨ t = -t1 ∧ ¬0 < b) → s * a + t * b = (Int.gcd a b : Int) ∧ s.natAbs < 2 ^ 2001 := fun s t hs ht => by
        refine ⟨?_, by omega⟩
        rw [hgx, hsa]
        rcases hs with ⟨rfl, h1⟩ | ⟨rfl, h1⟩ <;> rcases ht with ⟨rfl, h2⟩ | ⟨rfl, h2⟩
        · rw [show (a.natAbs : Int) = a by omega, show (b.natAbs : Int) = b by omega]
        · rw [show (a.natAbs : Int) = a by omega, show (b.natAbs : Int) = -b by omega]; grind
        · rw [show (a.natAbs : Int) = -a by omega, show (b.natAbs : Int) = b by omega]; grind
        · rw [show (a.natAbs : Int) = -a by omega, show (b.natAbs : Int) = -b by omega]; grind
      refine ⟨fun h1 => ⟨fun h2 => ⟨s1, t1, ?_, ?_, ?_⟩, fun h2 => ⟨s1, -t1, ?_, ?_, ?_⟩⟩, fun h1 => ⟨fun h2 => ⟨-s1, t1, ?_, ?_, ?_⟩, fun h2 => ⟨-s1, -t1, ?_, ?_, ?_⟩⟩⟩ <;> first
        | (rw [hgx]; done)
        | exact (key _ _ (by simp [h1]) (by simp [h2])).1
        | omega
  · omega
  · omega
  · omega
  · omega
  · simp [Int.gcd]
  · simp
  · simp
  · simp
  · simp
  · simp; omega
end
end Lp
-- pre3
namespace Lp
open Lg
local macro_rules
  | `(tactic| bv_omega) => `(tactic| try simp only [exec, evs, evo, evc, evIt, asg, asgs, evt, e_non, e_bl, e_int, e_str, e_var, e_bin, e_neg, e_not, e_cmp, e_and, e_or, e_ite, e_call, e_prim, e_isi, e_ix, e_slice, e_tup, e_lst, e_comp, e_lrange, e_meth, e_chain, e_chain3,
      wn, wp_bind, wp_one, fn_M, q_M, q_R, n_M, ty_M, ty_ML, l_M, e_con, mo_index, e_ladd, madd_ss, e_fnv, e_rev, rev_tup, rev_scr, fn_int, fn_bl, fn_non, fn_str, fn_tup, fn_scr, fn_fro, fn_ref, sz_0, sz_1, sz_2, sz_3, sz_4, sz_5, sz_6, sz_7, sz_8, sz_9, sz_10, sz_11, sz_12, e_isi2, e_lrep, m_rep, e_glob, tb_len, tb_rng, tb_rng2, tb_enum, rd_tup0, rd_tup1, rd_tup2, rd_si, dq_tup, dq_tups, dq_nil, dq_sn, dq_ns, dq_si, dq_is, dq_st, dq_ts, dq_nt, dq_tn, dq_it, dq_ti, dq_ni, dq_in, snoc_get, snoc_set, snoc_len, n_bl, ty_listi, ty_lists, ty_listn, ty_listb, ty_listt, ty_listc, ty_listf, ty_listr, ty_tupc, ty_strc, ty_intc, ty_intt, ty_ints, ty_intn, ty_bools, ty_booln, ty_boolt, ty_boolc, ty_strb, dq_bl, c_isb, c_isnb, n_scr, n_ref,  wp_lift, wp_noexc, wp_ok, wp_exc, wp_bad, bind_ok, lift_ok, wp_ite, conj_bad, b_add, b_addT, b_addL, b_sub, b_mul, b_rep, b_fdiv, b_mod, pw_9, pw_12, pw_15, pw_18, pw_19, pw_20, pw_43, pw_45, b_shl, i_add, i_sub, i_mul, i_fdiv, i_mod, c_eq, c_ne, c_lt, c_le, c_gt, c_ge, c_is, c_isNot, p_len, p_abs, p_min2, p_max2, p_int, p_intb, p_tuple, p_list, p_sum, p_any, p_all,
      q_tup, q_scr, q_fro, l_scr, l_fro, q_ref, l_ref, x_int, t_bl, t_int, t_non, t_tup, t_scr, ty_int, ty_intb, ty_bool, ty_booli, ty_tup, ty_tupi, ty_tupn, ty_tups, ty_str, sl_fro, sl_scr, sl_tup, nl_t, nl_f, k_tup, k_scr, k_fro, k_ref, wipe, s_ref, m_app, ix_40, ix_41, ix_42, ix_43, mo_ref, gd_t, mo_bits, m_bits, at_0, at_1, at_2, at_3, at_last, Option.bind_some, Option.map_some, lit_0, lit_1, lit_2, lit_3, lit_4, lit_5, lit_6, implies_true, Int.zero_add, Int.toNat_natCast, at_nat, List.getElem?_map, rd_int, rd_non, rd_bl, rd_str, dq_int, dq_non, dq_str, n_non, n_int, n_tup, n_str, ty_stri, ty_strn, ty_strt, ty_tupb, t_ref, start,
      List.getElem?_cons_zero, List.getElem?_cons_succ, List.set_cons_zero, List.set_cons_succ, List.map_cons, List.map_nil, List.length_cons, List.length_nil, List.replicate, List.cons_append, List.nil_append, Nat.reduceAdd, Nat.reduceSub, Int.reduceEq, Int.reduceToNat, Int.reduceBEq, Nat.reduceBEq, beq_self_eq_true, Int.reduceBNe, D.bl.injEq, Int.reduceLT, Int.reduceLE, Int.reduceAdd, Int.reduceSub, Int.reduceNeg, String.reduceEq, Nat.reduceEqDiff, gc_self, gc_cell, not_true, not_false_iff, or_self, or_true, true_or, or_false, false_or, and_false, false_and, and_self, eq_self, decide_true, decide_false,
      decide_eq_true_eq, decide_eq_false_iff_not, beq_iff_eq, beq_eq_false_iff_ne, Bool.not_eq_true', Bool.not_eq_false', Bool.not_eq_eq_eq_not, bne_iff_ne, Bool.or_false, Bool.or_true, Bool.false_or, Bool.true_or, Bool.and_false, Bool.and_true, Bool.false_and, Bool.true_and, not_false_eq_true, not_true_eq_false, Bool.not_true, Bool.not_false, true_and, and_true, ne_eq, forall_const, if_true, if_false, true_implies, false_implies, reduceCtorEq, Bool.false_eq_true, Bool.true_eq_false])
local macro_rules
  | `(tactic| simp_wf) => `(tactic| (rw [wc]; bv_omega))
open Lean.Grind Al
/-! ### Fermat -/
theorem bezout (a b : Nat) : ∃ s t : Int, s * a + t * b = Nat.gcd a b := by
  induction a, b using Nat.gcd.induction with
  | H0 n => exact ⟨0, 1, by simp⟩
  | H1 m n hm ih =>
    obtain ⟨s, t, e⟩ := ih
    refine ⟨t - s * (n / m : Nat), s, ?_⟩
    rw [Nat.gcd_rec m n, ← e]
    have h : (n : Int) = (n % m : Nat) + m * (n / m : Nat) := by exact_mod_cast (Nat.mod_add_div n m).symm
    generalize ((n / m : Nat) : Int) = q at *
    generalize ((n % m : Nat) : Int) = r at *
    rw [h]; grind
theorem fin_ofI {p : Nat} [NeZero p] (x : Fin p) : (ofI (x.val : Int) : Fin p) = x := by
  apply Fin.ext
  have h := ofI_F (p := p) (x.val : Int)
  rw [Int.fmod_eq_emod_of_nonneg _ (by omega), Int.emod_eq_of_lt (by omega) (by have := x.isLt; omega)] at h
  omega
theorem fin_ofp {p : Nat} [NeZero p] : (ofI (p : Int) : Fin p) = 0 := by
  apply Fin.ext
  have h := ofI_F (p := p) (p : Int)
  rw [Int.fmod_eq_emod_of_nonneg _ (by omega), Int.emod_self] at h
  have : ((0 : Fin p).val) = 0 := rfl
  omega
theorem fin_cop {p : Nat} [NeZero p] (hp : IsPr p) {x : Fin p} (hx : x ≠ 0) : Nat.gcd x.val p = 1 := by
  have h1 := Nat.gcd_dvd_left x.val p
  have h2 := Nat.gcd_dvd_right x.val p
  have hx0 : 0 < x.val := Nat.pos_of_ne_zero fun e => hx (Fin.ext e)
  have h3 := Nat.le_of_dvd hx0 h1
  have hlt := x.isLt
  apply Classical.byContradiction
  intro hc
  have h4 : 0 < Nat.gcd x.val p := Nat.gcd_pos_of_pos_left _ hx0
  exact hp.2 (Nat.gcd x.val p) (by omega) (by omega) (Int.natCast_dvd_natCast.mpr h2)
theorem fin_inv {p : Nat} [NeZero p] {x : Fin p} {s t : Int} (h : s * x.val + t * p = 1) : x * ofI s = 1 := by
  have e : (ofI (s * x.val + t * p) : Fin p) = ofI 1 := by rw [h]
  rw [ofI_add, ofI_mul, ofI_mul, fin_ofI, fin_ofp, ofI_1] at e
  rw [← e]; grind
theorem fin_ex {p : Nat} [NeZero p] (hp : IsPr p) {x : Fin p} (hx : x ≠ 0) : ∃ y, x * y = 1 := by
  obtain ⟨s, t, e⟩ := bezout x.val p
  rw [fin_cop hp hx] at e
  exact ⟨_, fin_inv e⟩
open Classical in
noncomputable def finv {Y : Fld} (x : Y.T) : Y.T := if h : ∃ y, x * y = 1 then Classical.choose h else 0
theorem finv_uniq {Y : Fld} {x y : Y.T} (h : x * y = 1) : y = finv x := by
  have h' : ∃ y, x * y = 1 := ⟨y, h⟩
  have e : x * finv x = 1 := by
    unfold finv
    rw [dif_pos h']
    exact Classical.choose_spec h'
  rw [show y = y * (x * finv x) by rw [e]; grind, show y * (x * finv x) = (x * y) * finv x by grind, h]; grind
def prd {R : Type} [CommRing R] (l : List R) : R := l.foldr (fun a b => a * b) 1
theorem prd_map {R : Type} [CommRing R] (x : R) : ∀ l : List R, prd (l.map (x * ·)) = pw x l.length * prd l
  | [] => by simp [prd, pw]; grind
  | a :: l => by
    have := prd_map x l
    simp only [prd, List.map_cons, List.foldr_cons, List.length_cons, pw] at this ⊢
    rw [this]; grind
theorem fermat {p : Nat} [NeZero p] (hp : IsPr p) {x : Fin p} (hx : x ≠ 0) : pw x (p - 1) = 1 := by
  have mne : ∀ {x y : Fin p}, x ≠ 0 → y ≠ 0 → x * y ≠ 0 := by
    intro x y hx hy e
    obtain ⟨z, hz⟩ := fin_ex hp hx
    apply hy
    have : y = (x * z) * y := by rw [hz]; grind
    rw [this, show x * z * y = (x * y) * z by grind, e]; grind
  have h2 := hp.1
  let l : List (Fin p) := (List.range (p - 1)).map fun i => Fin.ofNat p (i + 1)
  have val : ∀ i, i < p - 1 → (Fin.ofNat p (i + 1)).val = i + 1 := fun i hi => Nat.mod_eq_of_lt (by omega)
  have mem : ∀ a : Fin p, a ∈ l ↔ a ≠ 0 := by
    intro a
    constructor
    · intro h e
      obtain ⟨i, hi, rfl⟩ := List.mem_map.mp h
      have h3 := val i (List.mem_range.mp hi)
      rw [e] at h3
      exact absurd h3 (by show 0 ≠ i + 1; omega)
    · intro h
      have h0 : 0 < a.val := Nat.pos_of_ne_zero fun e => h (Fin.ext e)
      have hlt := a.isLt
      refine List.mem_map.mpr ⟨a.val - 1, List.mem_range.mpr (by omega), Fin.ext ?_⟩
      rw [val _ (by omega)]; omega
  have nd : l.Nodup := by
    refine List.pairwise_map.mpr (List.Pairwise.imp_of_mem ?_ List.nodup_range)
    intro a b ha hb hne e
    have h3 := val a (List.mem_range.mp ha)
    have h4 := val b (List.mem_range.mp hb)
    rw [e, h4] at h3
    omega
  have len : l.length = p - 1 := by simp [l]
  have nd2 : (l.map (x * ·)).Nodup := by
    refine List.pairwise_map.mpr (List.Pairwise.imp ?_ nd)
    intro a b hne e
    apply hne
    obtain ⟨z, hz⟩ := fin_ex hp hx
    have e' : x * a = x * b := e
    rw [show a = (x * a) * z by rw [show x * a * z = (x * z) * a by grind, hz]; grind, e', show (x * b) * z = (x * z) * b by grind, hz]; grind
  have pm : (l.map (x * ·)).Perm l := (List.perm_ext_iff_of_nodup nd2 nd).mpr fun a => by
    rw [mem]
    constructor
    · intro h
      obtain ⟨b, hb, rfl⟩ := List.mem_map.mp h
      exact mne hx ((mem b).mp hb)
    · intro h
      obtain ⟨z, hz⟩ := fin_ex hp hx
      refine List.mem_map.mpr ⟨z * a, (mem _).mpr ?_, ?_⟩
      · intro e
        apply h
        rw [show a = (x * z) * a by rw [hz]; grind, show x * z * a = x * (z * a) by grind, e]; grind
      · show x * (z * a) = a
        rw [show x * (z * a) = (x * z) * a by grind, hz]; grind
  have e1 : prd (l.map (x * ·)) = prd l := pm.foldr_eq' (fun a _ b _ z => by grind) 1
  rw [prd_map, len] at e1
  have pne : prd l ≠ 0 := by
    have : ∀ m : List (Fin p), (∀ a ∈ m, a ≠ 0) → prd m ≠ 0 := by
      intro m
      induction m with
      | nil =>
        intro _ e
        have h5 : (1 : Fin p).val = 0 := congrArg Fin.val (show (1 : Fin p) = 0 from e)
        have h6 : (1 : Fin p).val = 1 % p := rfl
        rw [h6, Nat.mod_eq_of_lt (by omega)] at h5
        omega
      | cons a m ih =>
        intro h
        exact mne (h a List.mem_cons_self) (ih fun b hb => h b (List.mem_cons_of_mem _ hb))
    exact this l fun a ha => (mem a).mp ha
  obtain ⟨z, hz⟩ := fin_ex hp pne
  rw [show pw x (p - 1) = (pw x (p - 1) * prd l) * z by rw [show pw x (p - 1) * prd l * z = pw x (p - 1) * (prd l * z) by grind, hz]; grind, e1, hz]
theorem rat_num_ne {x : Rat} (h : x ≠ 0) : x.num ≠ 0 := fun e => h (Rat.num_eq_zero.mp e)
theorem finv_Q {x : Rat} (h : x ≠ 0) : finv (Y := qFld) x = Rat.divInt x.den x.num := by
  rw [← Rat.inv_def]
  exact (finv_uniq (Y := qFld) (Rat.mul_inv_cancel x h)).symm
theorem fbd_inv {Y : Fld} (hY : IsFld Y) {N A : Nat} {x : Y.T} (h : Y.Bd N A x) (h0 : x ≠ 0) : ∃ N', 0 < N' ∧ N' ≤ A + 1 ∧ Y.Bd N' N (finv x) := by
  cases hY with
  | F p hp => exact ⟨1, by decide, by omega, by show 0 < 1; decide⟩
  | Q =>
    obtain ⟨hN, a, e, ha⟩ := h
    have a0 : a ≠ 0 := fun e' => by
      apply h0
      rw [show x = Rat.divInt a N from e, e']
      exact Rat.zero_divInt _
    have e2 : finv (Y := qFld) x = Rat.divInt N a := (finv_uniq (Y := qFld) (by
      show @HMul.hMul Rat Rat Rat _ x (Rat.divInt N a) = 1
      rw [show x = Rat.divInt a N from e, Rat.divInt_mul_divInt, Int.mul_comm (N : Int) a]
      exact Rat.divInt_self' (Int.mul_ne_zero a0 (by omega)))).symm
    refine ⟨a.natAbs, by omega, by omega, by omega, (if 0 < a then (N : Int) else -N), ?_, by split <;> omega⟩
    rw [e2]
    split
    · rw [show ((a.natAbs : Nat) : Int) = a by omega]
    · rw [show ((a.natAbs : Nat) : Int) = -a by omega, Rat.divInt_eq_divInt_iff a0 (by omega)]; grind
structure HasInv (P : Pg) : Prop where
  ring : HasRing P
  dom : HasDom P
  need_field : P.fn "need_field" = some Fn.f_need_field
  common : P.fn "common" = some Fn.f_common
  inverse : P.fn "inverse" = some Fn.f_inverse
section
variable {P : Pg} {sub : String → String → Option Bool} {k : Nat} {st : Store} {Q : D → Store → Prop} {Er : String → Store → Prop} {Y : Fld} {X : Dom} {N A : Nat}
theorem need_field_Y (h : HasInv P) (hY : IsFld Y) : callF P sub (k + 3) "need_field" [Y.d] st = .ok .non st := by
  obtain ⟨f, hf, ef⟩ := of_fld hY
  rw [ef]; exact need_field_ok h.dom h.need_field hf
theorem inverse_ok (h : HasInv P) (hY : IsFld Y) {x : Y.T} (h0 : x ≠ 0) (hx : Y.Bd N A x) (f : Fit N A) : callF P sub (k + 4) "inverse" [Y.d, Y.enc x] st = .ok (Y.enc (finv x)) st := by
  apply of_wp
  refine wcall h.inverse rfl ?_
  dsimp only [Fn.f_inverse]
  rw [wc]; bv_omega
  rw [need_field_Y h hY]; bv_omega
  rw [wc]; bv_omega
  rw [zero_f (k := k + 2) h.ring.zero hY]; bv_omega
  rw [frd hY, frd hY]; bv_omega
  rw [fdq hY]; bv_omega
  refine ⟨fun e => absurd e h0, fun _ => ?_⟩
  cases hY with
  | Q =>
    have sm := qSm_of hx f
    have hn := rat_num_ne h0
    simp only [qFld, Fd.enc]
    simp_wf
    simp_wf
    rw [fraction_ok h.ring.fraction h.ring.divisor _ _ hn (big_le (by decide) sm.1)]
    bv_omega
    rw [qenc hn, ← finv_Q h0]; rfl
  | F p hp hp2 =>
    have := hp.1
    have hlt := x.isLt
    simp only [pFld, Fd.enc]
    simp_wf
    simp_wf
    refine wp_imp (common_ok h.common _ _ (by have : (65521 : Nat) < 2 ^ 2000 := by decide
                                              omega) (by have : (65521 : Nat) < 2 ^ 2000 := by decide
                                                         omega)) ?_
    rintro d s ⟨s1, t1, rfl, hst, _, rfl⟩
    bv_omega
    simp_wf
    have g1 : (Int.gcd (x.val : Int) (p : Int) : Int) = 1 := by exact_mod_cast fin_cop hp h0
    rw [g1] at hst
    refine ⟨by omega, ?_⟩
    rw [ofI_F (p := p) s1]
    exact congrArg (pFld p).enc (finv_uniq (Y := pFld p) (fin_inv hst))
theorem quotient_ok (h : HasInv P) (hq : P.fn "quotient" = some Fn.f_quotient) (hY : IsFld Y) {x y : Y.T} (h0 : y ≠ 0) (hx : Y.Bd N A x) {N' A' : Nat} (hy : Y.Bd N' A' y) (f : Fit N A) (f' : Fit N' A') (f2 : A' + 1 < 2 ^ 2000) :
    callF P sub (k + 5) "quotient" [Y.d, Y.enc x, Y.enc y] st = .ok (Y.enc (x * finv y)) st := by
  apply of_wp
  refine wcall hq rfl ?_
  dsimp only [Fn.f_quotient]
  rw [wc]; bv_omega
  rw [inverse_ok h hY h0 hy f']; bv_omega
  obtain ⟨N2, h1, h2, h3⟩ := fbd_inv hY hy h0
  rw [f_mul (k := k + 1) h.ring hY hx h3 f ⟨by omega, f'.1⟩]; bv_omega
end
end Lp
-- pre3
namespace Lp
open Lg
local macro_rules
  | `(tactic| bv_omega) => `(tactic| try simp only [exec, evs, evo, evc, evIt, asg, asgs, evt, e_non, e_bl, e_int, e_str, e_var, e_bin, e_neg, e_not, e_cmp, e_and, e_or, e_ite, e_call, e_prim, e_isi, e_ix, e_slice, e_tup, e_lst, e_comp, e_lrange, e_meth, e_chain, e_chain3,
      wn, wp_bind, wp_one, fn_M, q_M, q_R, n_M, ty_M, ty_ML, l_M, e_con, mo_index, e_ladd, madd_ss, e_fnv, e_rev, rev_tup, rev_scr, fn_int, fn_bl, fn_non, fn_str, fn_tup, fn_scr, fn_fro, fn_ref, sz_0, sz_1, sz_2, sz_3, sz_4, sz_5, sz_6, sz_7, sz_8, sz_9, sz_10, sz_11, sz_12, e_isi2, e_lrep, m_rep, e_glob, tb_len, tb_rng, tb_rng2, tb_enum, rd_tup0, rd_tup1, rd_tup2, rd_si, dq_tup, dq_tups, dq_nil, dq_sn, dq_ns, dq_si, dq_is, dq_st, dq_ts, dq_nt, dq_tn, dq_it, dq_ti, dq_ni, dq_in, snoc_get, snoc_set, snoc_len, n_bl, ty_listi, ty_lists, ty_listn, ty_listb, ty_listt, ty_listc, ty_listf, ty_listr, ty_tupc, ty_strc, ty_intc, ty_intt, ty_ints, ty_intn, ty_bools, ty_booln, ty_boolt, ty_boolc, ty_strb, dq_bl, c_isb, c_isnb, n_scr, n_ref,  wp_lift, wp_noexc, wp_ok, wp_exc, wp_bad, bind_ok, lift_ok, wp_ite, conj_bad, b_add, b_addT, b_addL, b_sub, b_mul, b_rep, b_fdiv, b_mod, pw_9, pw_12, pw_15, pw_18, pw_19, pw_20, pw_43, pw_45, b_shl, i_add, i_sub, i_mul, i_fdiv, i_mod, c_eq, c_ne, c_lt, c_le, c_gt, c_ge, c_is, c_isNot, p_len, p_abs, p_min2, p_max2, p_int, p_intb, p_tuple, p_list, p_sum, p_any, p_all,
      q_tup, q_scr, q_fro, l_scr, l_fro, q_ref, l_ref, x_int, t_bl, t_int, t_non, t_tup, t_scr, ty_int, ty_intb, ty_bool, ty_booli, ty_tup, ty_tupi, ty_tupn, ty_tups, ty_str, sl_fro, sl_scr, sl_tup, nl_t, nl_f, k_tup, k_scr, k_fro, k_ref, wipe, s_ref, m_app, ix_40, ix_41, ix_42, ix_43, mo_ref, gd_t, mo_bits, m_bits, at_0, at_1, at_2, at_3, at_last, Option.bind_some, Option.map_some, lit_0, lit_1, lit_2, lit_3, lit_4, lit_5, lit_6, implies_true, Int.zero_add, Int.toNat_natCast, at_nat, List.getElem?_map, rd_int, rd_non, rd_bl, rd_str, dq_int, dq_non, dq_str, n_non, n_int, n_tup, n_str, ty_stri, ty_strn, ty_strt, ty_tupb, t_ref, start,
      List.getElem?_cons_zero, List.getElem?_cons_succ, List.set_cons_zero, List.set_cons_succ, List.map_cons, List.map_nil, List.length_cons, List.length_nil, List.replicate, List.cons_append, List.nil_append, Nat.reduceAdd, Nat.reduceSub, Int.reduceEq, Int.reduceToNat, Int.reduceBEq, Nat.reduceBEq, beq_self_eq_true, Int.reduceBNe, D.bl.injEq, Int.reduceLT, Int.reduceLE, Int.reduceAdd, Int.reduceSub, Int.reduceNeg, String.reduceEq, Nat.reduceEqDiff, gc_self, gc_cell, not_true, not_false_iff, or_self, or_true, true_or, or_false, false_or, and_false, false_and, and_self, eq_self, decide_true, decide_false,
      decide_eq_true_eq, decide_eq_false_iff_not, beq_iff_eq, beq_eq_false_iff_ne, Bool.not_eq_true', Bool.not_eq_false', Bool.not_eq_eq_eq_not, bne_iff_ne, Bool.or_false, Bool.or_true, Bool.false_or, Bool.true_or, Bool.and_false, Bool.and_true, Bool.false_and, Bool.true_and, not_false_eq_true, not_true_eq_false, Bool.not_true, Bool.not_false, true_and, and_true, ne_eq, forall_const, if_true, if_false, true_implies, false_implies, reduceCtorEq, Bool.false_eq_true, Bool.true_eq_false])
local macro_rules
  | `(tactic| simp_wf) => `(tactic| (rw [wc]; bv_omega))
open Lean.Grind Al
/-! ### elimination, without a program -/
section
variable {Y : Fld}
/-- rows in another order, the pivot's row scaled, the others cleared -/
noncomputable def stp (π : Nat → Nat) (M : Nat → Nat → Y.T) (r j : Nat) : Nat → Nat → Y.T := fun i c =>
  if i = r then finv (M (π r) j) * M (π r) c else M (π i) c - M (π i) j * (finv (M (π r) j) * M (π r) c)
structure Pm (m r : Nat) (π : Nat → Nat) : Prop where
  lo : ∀ i, i < r → π i = i
  lt : ∀ i, i < m → π i < m
  sur : ∀ i, i < m → ∃ i', i' < m ∧ π i' = i
  hi : ∀ i, r ≤ i → r ≤ π i
  inj : ∀ i i', i < m → i' < m → π i = π i' → i = i'
/-! reduced echelon form -/
structure RR (m n : Nat) (M : Nat → Nat → Y.T) (piv : List Nat) : Prop where
  le : piv.length ≤ m
  inc : piv.Pairwise (· < ·)
  lt : ∀ c ∈ piv, c < n
  one : ∀ a c, piv[a]? = some c → ∀ i, i < m → M i c = if i = a then 1 else 0
  left : ∀ a c, piv[a]? = some c → ∀ c', c' < c → M a c' = 0
  zero : ∀ i, piv.length ≤ i → i < m → ∀ c, c < n → M i c = 0
/-! the form is one -/
end
end Lp
-- pre3
namespace Lp
open Lg
local macro_rules
  | `(tactic| bv_omega) => `(tactic| try simp only [exec, evs, evo, evc, evIt, asg, asgs, evt, e_non, e_bl, e_int, e_str, e_var, e_bin, e_neg, e_not, e_cmp, e_and, e_or, e_ite, e_call, e_prim, e_isi, e_ix, e_slice, e_tup, e_lst, e_comp, e_lrange, e_meth, e_chain, e_chain3,
      wn, wp_bind, wp_one, fn_M, q_M, q_R, n_M, ty_M, ty_ML, l_M, e_con, mo_index, e_ladd, madd_ss, e_fnv, e_rev, rev_tup, rev_scr, fn_int, fn_bl, fn_non, fn_str, fn_tup, fn_scr, fn_fro, fn_ref, sz_0, sz_1, sz_2, sz_3, sz_4, sz_5, sz_6, sz_7, sz_8, sz_9, sz_10, sz_11, sz_12, e_isi2, e_lrep, m_rep, e_glob, tb_len, tb_rng, tb_rng2, tb_enum, rd_tup0, rd_tup1, rd_tup2, rd_si, dq_tup, dq_tups, dq_nil, dq_sn, dq_ns, dq_si, dq_is, dq_st, dq_ts, dq_nt, dq_tn, dq_it, dq_ti, dq_ni, dq_in, snoc_get, snoc_set, snoc_len, n_bl, ty_listi, ty_lists, ty_listn, ty_listb, ty_listt, ty_listc, ty_listf, ty_listr, ty_tupc, ty_strc, ty_intc, ty_intt, ty_ints, ty_intn, ty_bools, ty_booln, ty_boolt, ty_boolc, ty_strb, dq_bl, c_isb, c_isnb, n_scr, n_ref,  wp_lift, wp_noexc, wp_ok, wp_exc, wp_bad, bind_ok, lift_ok, wp_ite, conj_bad, b_add, b_addT, b_addL, b_sub, b_mul, b_rep, b_fdiv, b_mod, pw_9, pw_12, pw_15, pw_18, pw_19, pw_20, pw_43, pw_45, b_shl, i_add, i_sub, i_mul, i_fdiv, i_mod, c_eq, c_ne, c_lt, c_le, c_gt, c_ge, c_is, c_isNot, p_len, p_abs, p_min2, p_max2, p_int, p_intb, p_tuple, p_list, p_sum, p_any, p_all,
      q_tup, q_scr, q_fro, l_scr, l_fro, q_ref, l_ref, x_int, t_bl, t_int, t_non, t_tup, t_scr, ty_int, ty_intb, ty_bool, ty_booli, ty_tup, ty_tupi, ty_tupn, ty_tups, ty_str, sl_fro, sl_scr, sl_tup, nl_t, nl_f, k_tup, k_scr, k_fro, k_ref, wipe, s_ref, m_app, ix_40, ix_41, ix_42, ix_43, mo_ref, gd_t, mo_bits, m_bits, at_0, at_1, at_2, at_3, at_last, Option.bind_some, Option.map_some, lit_0, lit_1, lit_2, lit_3, lit_4, lit_5, lit_6, implies_true, Int.zero_add, Int.toNat_natCast, at_nat, List.getElem?_map, rd_int, rd_non, rd_bl, rd_str, dq_int, dq_non, dq_str, n_non, n_int, n_tup, n_str, ty_stri, ty_strn, ty_strt, ty_tupb, t_ref, start,
      List.getElem?_cons_zero, List.getElem?_cons_succ, List.set_cons_zero, List.set_cons_succ, List.map_cons, List.map_nil, List.length_cons, List.length_nil, List.replicate, List.cons_append, List.nil_append, Nat.reduceAdd, Nat.reduceSub, Int.reduceEq, Int.reduceToNat, Int.reduceBEq, Nat.reduceBEq, beq_self_eq_true, Int.reduceBNe, D.bl.injEq, Int.reduceLT, Int.reduceLE, Int.reduceAdd, Int.reduceSub, Int.reduceNeg, String.reduceEq, Nat.reduceEqDiff, gc_self, gc_cell, not_true, not_false_iff, or_self, or_true, true_or, or_false, false_or, and_false, false_and, and_self, eq_self, decide_true, decide_false,
      decide_eq_true_eq, decide_eq_false_iff_not, beq_iff_eq, beq_eq_false_iff_ne, Bool.not_eq_true', Bool.not_eq_false', Bool.not_eq_eq_eq_not, bne_iff_ne, Bool.or_false, Bool.or_true, Bool.false_or, Bool.true_or, Bool.and_false, Bool.and_true, Bool.false_and, Bool.true_and, not_false_eq_true, not_true_eq_false, Bool.not_true, Bool.not_false, true_and, and_true, ne_eq, forall_const, if_true, if_false, true_implies, false_implies, reduceCtorEq, Bool.false_eq_true, Bool.true_eq_false])
local macro_rules
  | `(tactic| simp_wf) => `(tactic| (rw [wc]; bv_omega))
open Lean.Grind Al
/-! ### sizes -/
section
variable {Y : Fld}
def G (Y : Fld) (e : Nat) (x : Y.T) : Prop := ∃ N A, Y.Bd N A x ∧ N < 2 ^ e ∧ A < 2 ^ e
theorem G.mono {e e' : Nat} {x : Y.T} (h : G Y e x) (he : e ≤ e') : G Y e' x := by
  obtain ⟨N, A, h1, h2, h3⟩ := h
  have := Nat.pow_le_pow_right (show 0 < 2 by decide) he
  exact ⟨N, A, h1, by omega, by omega⟩
theorem G.mul (hY : IsFld Y) {e e' f : Nat} {x y : Y.T} (h : G Y e x) (h' : G Y e' y) (he : e + e' ≤ f) : G Y f (x * y) := by
  obtain ⟨N, A, h1, h2, h3⟩ := h
  obtain ⟨N', A', g1, g2, g3⟩ := h'
  have p := Nat.pow_le_pow_right (show 0 < 2 by decide) he
  rw [Nat.pow_add] at p
  have q1 : N * N' < 2 ^ e * 2 ^ e' := Nat.mul_lt_mul'' h2 g2
  have q2 : A * A' < 2 ^ e * 2 ^ e' := Nat.mul_lt_mul'' h3 g3
  exact ⟨_, _, fbd_mul hY h1 g1, by omega, by omega⟩
theorem G.neg (hY : IsFld Y) {e : Nat} {x : Y.T} (h : G Y e x) : G Y e (-x) := by
  obtain ⟨N, A, h1, h2, h3⟩ := h
  exact ⟨N, A, fbd_neg hY h1, h2, h3⟩
theorem G.inv (hY : IsFld Y) {e f : Nat} {x : Y.T} (h : G Y e x) (h0 : x ≠ 0) (he : e < f) : G Y f (finv x) := by
  obtain ⟨N, A, h1, h2, h3⟩ := h
  obtain ⟨N1, g1, g2, g3⟩ := fbd_inv hY h1 h0
  have := Nat.pow_le_pow_right (show 0 < 2 by decide) (show e + 1 ≤ f from he)
  rw [Nat.pow_succ] at this
  exact ⟨N1, N, g3, by omega, by omega⟩
/-- one denominator for all -/
def Bm (Y : Fld) (u : Nat) (M : Nat → Nat → Y.T) : Prop := ∃ N A, N ≤ A ∧ A < 2 ^ u ∧ ∀ i c, Y.Bd N A (M i c)
theorem Bm.g {u e : Nat} {M : Nat → Nat → Y.T} (h : Bm Y u M) (he : u ≤ e) (i c : Nat) : G Y e (M i c) := by
  obtain ⟨N, A, h1, h2, h3⟩ := h
  have := Nat.pow_le_pow_right (show 0 < 2 by decide) he
  exact ⟨N, A, h3 i c, by omega, by omega⟩
theorem Bm.inv (hY : IsFld Y) {u e : Nat} {M : Nat → Nat → Y.T} (h : Bm Y u M) (he : u < e) {a b : Nat} (h0 : M a b ≠ 0) : G Y e (finv (M a b)) := by
  obtain ⟨N, A, h1, h2, h3⟩ := h
  obtain ⟨N1, g1, g2, g3⟩ := fbd_inv hY (h3 a b) h0
  have := Nat.pow_le_pow_right (show 0 < 2 by decide) (show u + 1 ≤ e from he)
  rw [Nat.pow_succ] at this
  exact ⟨N1, N, g3, by omega, by omega⟩
end
section
variable {Y : Fld}
/-! ### what is asked of a measure of the sizes -/
section
variable {Y : Fld}
structure Bok (Y : Fld) (m w n e : Nat) (Bp : List Nat → (Nat → Nat → Y.T) → Prop) : Prop where
  row : ∀ {piv : List Nat} {M : Nat → Nat → Y.T}, piv.length ≤ m → Bp piv M → ∀ i, i < m → ∃ N A, 0 < N ∧ N < 2 ^ e ∧ A < 2 ^ e ∧ ∀ c, c < w → Y.Bd N A (M i c)
  lead : ∀ {piv : List Nat} {M : Nat → Nat → Y.T}, piv.length < m → Bp piv M → ∀ a, piv.length ≤ a → a < m → ∀ j, j < w → M a j ≠ 0 → ∀ c, c < w → G Y (e + 1) (finv (M a j) * M a c)
  step : ∀ {j : Nat} {piv : List Nat} {M : Nat → Nat → Y.T} {π : Nat → Nat}, RR m j M piv → piv.length < m → j < n → Pm m piv.length π → M (π piv.length) j ≠ 0 → Bp piv M → Bp (piv ++ [j]) (stp π M piv.length j)
theorem Bok.g {m w n e : Nat} {Bp : List Nat → (Nat → Nat → Y.T) → Prop} (K : Bok Y m w n e Bp) {piv : List Nat} {M : Nat → Nat → Y.T} (hl : piv.length ≤ m) (h : Bp piv M) (i : Nat) (hi : i < m) (c : Nat) (hc : c < w) : G Y e (M i c) := by
  obtain ⟨N, A, h1, h2, h3, h4⟩ := K.row hl h i hi
  exact ⟨N, A, h4 c hc, h2, h3⟩
end
/-! ### rows in the store -/
structure RwS (Y : Fld) (b : Nat) (st : Store) (L m w : Nat) (M : Nat → Nat → Y.T) (p : Nat → Nat) : Prop where
  bl : b ≤ L
  bp : ∀ i, i < m → b ≤ p i
  dl : ∀ i, i < m → p i ≠ L
  inj : ∀ i i', i < m → i' < m → p i = p i' → i = i'
  rows : st[L]? = some (.lst (tb m fun i => .ref (p i)))
  row : ∀ i, i < m → st[p i]? = some (.lst (tb w fun c => Y.enc (M i c)))
theorem RwS.Ll {b : Nat} {st : Store} {L m w : Nat} {M : Nat → Nat → Y.T} {p : Nat → Nat} (h : RwS Y b st L m w M p) : L < st.length := (List.getElem?_eq_some_iff.mp h.rows).1
theorem RwS.pl {b : Nat} {st : Store} {L m w : Nat} {M : Nat → Nat → Y.T} {p : Nat → Nat} (h : RwS Y b st L m w M p) {i : Nat} (hi : i < m) : p i < st.length := (List.getElem?_eq_some_iff.mp (h.row i hi)).1
/-- a row is written -/
theorem RwS.write {b : Nat} {st : Store} {L m w : Nat} {M M' : Nat → Nat → Y.T} {p : Nat → Nat} (h : RwS Y b st L m w M p) {t : Nat} (ht : t < m) {xs : List D} (hx : xs = tb w fun c => Y.enc (M' t c)) (hM : ∀ i, i ≠ t → ∀ c, M' i c = M i c) : RwS Y b (st.set (p t) (.lst xs)) L m w M' p where
  bl := h.bl
  bp := h.bp
  dl := h.dl
  inj := h.inj
  rows := by rw [List.getElem?_set_ne (h.dl t ht)]; exact h.rows
  row := fun i hi => by
    by_cases e : i = t
    · subst e; rw [List.getElem?_set_self (h.pl hi), hx]
    · rw [List.getElem?_set_ne (fun z => e (h.inj _ _ hi ht z.symm)), h.row i hi]
      congr 2
      exact tb_congr fun c _ => by rw [hM i e c]
theorem RwS.app {b : Nat} {st : Store} {L m w : Nat} {M : Nat → Nat → Y.T} {p : Nat → Nat} (h : RwS Y b st L m w M p) (c : Store) : RwS Y b (st ++ c) L m w M p where
  bl := h.bl
  bp := h.bp
  dl := h.dl
  inj := h.inj
  rows := by rw [List.getElem?_append_left h.Ll]; exact h.rows
  row := fun i hi => by rw [List.getElem?_append_left (h.pl hi)]; exact h.row i hi
/-- a row is made anew -/
theorem RwS.fresh {b : Nat} {st : Store} {L m w : Nat} {M M' : Nat → Nat → Y.T} {p : Nat → Nat} (h : RwS Y b st L m w M p) {t : Nat} (ht : t < m) (hM : ∀ i, i ≠ t → ∀ c, M' i c = M i c) {xs : List D} (hx : xs = tb m fun i => .ref (if i = t then st.length else p i)) :
    RwS Y b ((st ++ [Cell.lst (tb w fun c => Y.enc (M' t c))]).set L (.lst xs)) L m w M' (fun i => if i = t then st.length else p i) where
  bl := h.bl
  bp := fun i hi => by
    have := h.bl
    have := h.Ll
    split
    · omega
    · exact h.bp i hi
  dl := fun i hi => by
    have := h.Ll
    split
    · omega
    · exact h.dl i hi
  inj := fun i i' h1 h2 e => by
    have q1 := h.pl h1
    have q2 := h.pl h2
    by_cases e1 : i = t <;> by_cases e2 : i' = t
    · omega
    · simp only [e1, if_true, if_neg e2] at e; omega
    · simp only [e2, if_true, if_neg e1] at e; omega
    · simp only [if_neg e1, if_neg e2] at e; exact h.inj _ _ h1 h2 e
  rows := by rw [List.getElem?_set_self (by rw [List.length_append]; have := h.Ll; omega), hx]
  row := fun i hi => by
    have hl := h.Ll
    by_cases e : i = t
    · subst e
      simp only [if_true]
      rw [List.getElem?_set_ne (by omega), List.getElem?_append_right (Nat.le_refl _)]
      simp
    · simp only [if_neg e]
      rw [List.getElem?_set_ne (Ne.symm (h.dl i hi)), List.getElem?_append_left (h.pl hi), h.row i hi]
      congr 2
      exact tb_congr fun c _ => by rw [hM i e c]
theorem RwS.congr {b : Nat} {st : Store} {L m w : Nat} {M M' : Nat → Nat → Y.T} {p : Nat → Nat} (h : RwS Y b st L m w M p) (hM : ∀ i, i < m → ∀ c, c < w → M' i c = M i c) : RwS Y b st L m w M' p where
  bl := h.bl
  bp := h.bp
  dl := h.dl
  inj := h.inj
  rows := h.rows
  row := fun i hi => by
    rw [h.row i hi]
    congr 2
    exact tb_congr fun c hc => by rw [hM i hi c hc]
/-- what lies below stays -/
def Bs (b : Nat) (s0 st : Store) : Prop := b ≤ st.length ∧ st.take b = s0.take b
theorem Bs.refl {b : Nat} {st : Store} (h : b ≤ st.length) : Bs b st st := ⟨h, rfl⟩
theorem Bs.set {b : Nat} {s0 st : Store} (h : Bs b s0 st) {l : Nat} (hl : b ≤ l) (c : Cell) : Bs b s0 (st.set l c) := ⟨by rw [List.length_set]; exact h.1, by rw [← h.2, List.take_set_of_le hl]⟩
theorem Bs.app {b : Nat} {s0 st : Store} (h : Bs b s0 st) (c : Store) : Bs b s0 (st ++ c) := ⟨by rw [List.length_append]; have := h.1; omega, by rw [← h.2, List.take_append_of_le_length h.1]⟩
theorem Bs.trans {b : Nat} {s0 s1 st : Store} (h : Bs b s0 s1) (h' : Bs b s1 st) : Bs b s0 st := ⟨h'.1, h'.2.trans h.2⟩
end
section
variable {Y : Fld} {P : Pg} {sub : String → String → Option Bool} {k : Nat} {st : Store} {Q : D → Store → Prop} {Er : String → Store → Prop}
theorem G.add (h : HasRing P) (hY : IsFld Y) {x y : Y.T} (hx : G Y 2000 x) (hy : G Y 2000 y) : callF P sub (k + 3) "add" [Y.d, Y.enc x, Y.enc y] st = .ok (Y.enc (x + y)) st := by
  obtain ⟨N, A, h1, h2, h3⟩ := hx
  obtain ⟨N', A', g1, g2, g3⟩ := hy
  exact f_add h hY h1 g1 ⟨h2, h3⟩ ⟨g2, g3⟩
end
end Lp
-- pre3
namespace Lp
open Lg
local macro_rules
  | `(tactic| bv_omega) => `(tactic| try simp only [exec, evs, evo, evc, evIt, asg, asgs, evt, e_non, e_bl, e_int, e_str, e_var, e_bin, e_neg, e_not, e_cmp, e_and, e_or, e_ite, e_call, e_prim, e_isi, e_ix, e_slice, e_tup, e_lst, e_comp, e_lrange, e_meth, e_chain, e_chain3,
      wn, wp_bind, wp_one, fn_M, q_M, q_R, n_M, ty_M, ty_ML, l_M, e_con, mo_index, e_ladd, madd_ss, e_fnv, e_rev, rev_tup, rev_scr, fn_int, fn_bl, fn_non, fn_str, fn_tup, fn_scr, fn_fro, fn_ref, sz_0, sz_1, sz_2, sz_3, sz_4, sz_5, sz_6, sz_7, sz_8, sz_9, sz_10, sz_11, sz_12, e_isi2, e_lrep, m_rep, e_glob, tb_len, tb_rng, tb_rng2, tb_enum, rd_tup0, rd_tup1, rd_tup2, rd_si, dq_tup, dq_tups, dq_nil, dq_sn, dq_ns, dq_si, dq_is, dq_st, dq_ts, dq_nt, dq_tn, dq_it, dq_ti, dq_ni, dq_in, snoc_get, snoc_set, snoc_len, n_bl, ty_listi, ty_lists, ty_listn, ty_listb, ty_listt, ty_listc, ty_listf, ty_listr, ty_tupc, ty_strc, ty_intc, ty_intt, ty_ints, ty_intn, ty_bools, ty_booln, ty_boolt, ty_boolc, ty_strb, dq_bl, c_isb, c_isnb, n_scr, n_ref,  wp_lift, wp_noexc, wp_ok, wp_exc, wp_bad, bind_ok, lift_ok, wp_ite, conj_bad, b_add, b_addT, b_addL, b_sub, b_mul, b_rep, b_fdiv, b_mod, pw_9, pw_12, pw_15, pw_18, pw_19, pw_20, pw_43, pw_45, b_shl, i_add, i_sub, i_mul, i_fdiv, i_mod, c_eq, c_ne, c_lt, c_le, c_gt, c_ge, c_is, c_isNot, p_len, p_abs, p_min2, p_max2, p_int, p_intb, p_tuple, p_list, p_sum, p_any, p_all,
      q_tup, q_scr, q_fro, l_scr, l_fro, q_ref, l_ref, x_int, t_bl, t_int, t_non, t_tup, t_scr, ty_int, ty_intb, ty_bool, ty_booli, ty_tup, ty_tupi, ty_tupn, ty_tups, ty_str, sl_fro, sl_scr, sl_tup, nl_t, nl_f, k_tup, k_scr, k_fro, k_ref, wipe, s_ref, m_app, ix_40, ix_41, ix_42, ix_43, mo_ref, gd_t, mo_bits, m_bits, at_0, at_1, at_2, at_3, at_last, Option.bind_some, Option.map_some, lit_0, lit_1, lit_2, lit_3, lit_4, lit_5, lit_6, implies_true, Int.zero_add, Int.toNat_natCast, at_nat, List.getElem?_map, rd_int, rd_non, rd_bl, rd_str, dq_int, dq_non, dq_str, n_non, n_int, n_tup, n_str, ty_stri, ty_strn, ty_strt, ty_tupb, t_ref, start,
      List.getElem?_cons_zero, List.getElem?_cons_succ, List.set_cons_zero, List.set_cons_succ, List.map_cons, List.map_nil, List.length_cons, List.length_nil, List.replicate, List.cons_append, List.nil_append, Nat.reduceAdd, Nat.reduceSub, Int.reduceEq, Int.reduceToNat, Int.reduceBEq, Nat.reduceBEq, beq_self_eq_true, Int.reduceBNe, D.bl.injEq, Int.reduceLT, Int.reduceLE, Int.reduceAdd, Int.reduceSub, Int.reduceNeg, String.reduceEq, Nat.reduceEqDiff, gc_self, gc_cell, not_true, not_false_iff, or_self, or_true, true_or, or_false, false_or, and_false, false_and, and_self, eq_self, decide_true, decide_false,
      decide_eq_true_eq, decide_eq_false_iff_not, beq_iff_eq, beq_eq_false_iff_ne, Bool.not_eq_true', Bool.not_eq_false', Bool.not_eq_eq_eq_not, bne_iff_ne, Bool.or_false, Bool.or_true, Bool.false_or, Bool.true_or, Bool.and_false, Bool.and_true, Bool.false_and, Bool.true_and, not_false_eq_true, not_true_eq_false, Bool.not_true, Bool.not_false, true_and, and_true, ne_eq, forall_const, if_true, if_false, true_implies, false_implies, reduceCtorEq, Bool.false_eq_true, Bool.true_eq_false])
local macro_rules
  | `(tactic| simp_wf) => `(tactic| (rw [wc]; bv_omega))
open Lean.Grind Al
structure HasLi (P : Pg) : Prop where
  lw : HasLaw P
  lpower : P.fn "_law_power" = some Fn.f__law_power
  linverse : P.fn "_law_inverse" = some Fn.f__law_inverse
section
variable {Y : Fld} {P : Pg} {sub : String → String → Option Bool} {k : Nat} {st : Store} {Q : D → Store → Prop} {Er : String → Store → Prop}
theorem linv_li (h : HasLi P) (hY : IsFld Y) {x : Y.T} (h0 : x ≠ 0) (hx : G Y 2000 x) : callF P sub (k + 6) "_law_inverse" [Y.d, Y.enc x] st = .ok (Y.enc (finv x)) st := by
  obtain ⟨N, A, hx, f1, f2⟩ := hx
  have f : Fit N A := ⟨f1, f2⟩
  apply of_wp
  refine wcall h.linverse rfl ?_
  dsimp only [Fn.f__law_inverse]
  cases hY with
  | Q =>
    have sm := qSm_of hx f
    have hn := rat_num_ne h0
    simp only [qFld, Fd.enc]
    simp_wf
    simp_wf
    rw [law_fraction_ok h.lw.fraction h.lw.common _ _ hn (big_le (by decide) sm.1)]
    bv_omega
    rw [qenc hn, ← finv_Q h0]; rfl
  | F p hp hp2 =>
    have hp1 := hp.1
    have fb : ∀ x : Fin p, (fDom (pFld p)).Bd 1 1 1 x := fun x => by show 0 < 1; decide
    have df : DFit 1 1 1 := ⟨by decide, by decide, by decide⟩
    have df2 : Fit 1 1 := ⟨by decide, by decide⟩
    have key := lpower_ok (k := k) (sub := sub) (st := st) h.lw h.lpower (.fld (.F p hp hp2)) (x := x) (e := p - 2) (fun i _ => ⟨1, 1, 1, 1, 1, 1, fb _, fb _, df, df, df2⟩) (fun i r _ => ⟨1, 1, 1, 1, 1, 1, fb _, fb _, df, df, df2⟩)
    have e : pw x (p - 2) = finv (Y := pFld p) x := by
      refine finv_uniq (Y := pFld p) ?_
      have e1 := pw_add x 1 (p - 2)
      rw [pw_1, show 1 + (p - 2) = p - 1 by omega] at e1
      rw [← e1]
      exact fermat hp h0
    have key' : callF P sub (k + 5) "_law_power" [.tup [.str "F", .int p], .int x.val, .int ((p : Int) - 2)] st = .ok ((pFld p).enc (finv (Y := pFld p) x)) st := by
      rw [← e, show (p : Int) - 2 = ((p - 2 : Nat) : Int) by omega]
      exact key
    simp only [pFld, Fd.enc]
    simp_wf
    simp_wf
    rw [key']; bv_omega
    rfl
theorem G.lmul (h : HasLaw P) (hY : IsFld Y) {x y : Y.T} (hx : G Y 2000 x) (hy : G Y 2000 y) : callF P sub (k + 3) "_law_multiply" [Y.d, Y.enc x, Y.enc y] st = .ok (Y.enc (x * y)) st := by
  obtain ⟨N, A, h1, h2, h3⟩ := hx
  obtain ⟨N', A', g1, g2, g3⟩ := hy
  exact lf_mul h hY h1 g1 ⟨h2, h3⟩ ⟨g2, g3⟩
theorem G.ladd (h : HasLaw P) (hY : IsFld Y) {x y : Y.T} (hx : G Y 2000 x) (hy : G Y 2000 y) : callF P sub (k + 3) "_law_add" [Y.d, Y.enc x, Y.enc y] st = .ok (Y.enc (x + y)) st := by
  obtain ⟨N, A, h1, h2, h3⟩ := hx
  obtain ⟨N', A', g1, g2, g3⟩ := hy
  exact lf_add h hY h1 g1 ⟨h2, h3⟩ ⟨g2, g3⟩
/-- a matrix over a field -/
def mF (Y : Fld) (m w : Nat) (A : Nat → Nat → Y.T) : D := .tup [.int m, .int w, .tup (tb m fun i => .tup (tb w fun c => Y.enc (A i c)))]
end
end Lp
-- pre3
namespace Lp
open Lg
local macro_rules
  | `(tactic| bv_omega) => `(tactic| try simp only [exec, evs, evo, evc, evIt, asg, asgs, evt, e_non, e_bl, e_int, e_str, e_var, e_bin, e_neg, e_not, e_cmp, e_and, e_or, e_ite, e_call, e_prim, e_isi, e_ix, e_slice, e_tup, e_lst, e_comp, e_lrange, e_meth, e_chain, e_chain3,
      wn, wp_bind, wp_one, fn_M, q_M, q_R, n_M, ty_M, ty_ML, l_M, e_con, mo_index, e_ladd, madd_ss, e_fnv, e_rev, rev_tup, rev_scr, fn_int, fn_bl, fn_non, fn_str, fn_tup, fn_scr, fn_fro, fn_ref, sz_0, sz_1, sz_2, sz_3, sz_4, sz_5, sz_6, sz_7, sz_8, sz_9, sz_10, sz_11, sz_12, e_isi2, e_lrep, m_rep, e_glob, tb_len, tb_rng, tb_rng2, tb_enum, rd_tup0, rd_tup1, rd_tup2, rd_si, dq_tup, dq_tups, dq_nil, dq_sn, dq_ns, dq_si, dq_is, dq_st, dq_ts, dq_nt, dq_tn, dq_it, dq_ti, dq_ni, dq_in, snoc_get, snoc_set, snoc_len, n_bl, ty_listi, ty_lists, ty_listn, ty_listb, ty_listt, ty_listc, ty_listf, ty_listr, ty_tupc, ty_strc, ty_intc, ty_intt, ty_ints, ty_intn, ty_bools, ty_booln, ty_boolt, ty_boolc, ty_strb, dq_bl, c_isb, c_isnb, n_scr, n_ref,  wp_lift, wp_noexc, wp_ok, wp_exc, wp_bad, bind_ok, lift_ok, wp_ite, conj_bad, b_add, b_addT, b_addL, b_sub, b_mul, b_rep, b_fdiv, b_mod, pw_9, pw_12, pw_15, pw_18, pw_19, pw_20, pw_43, pw_45, b_shl, i_add, i_sub, i_mul, i_fdiv, i_mod, c_eq, c_ne, c_lt, c_le, c_gt, c_ge, c_is, c_isNot, p_len, p_abs, p_min2, p_max2, p_int, p_intb, p_tuple, p_list, p_sum, p_any, p_all,
      q_tup, q_scr, q_fro, l_scr, l_fro, q_ref, l_ref, x_int, t_bl, t_int, t_non, t_tup, t_scr, ty_int, ty_intb, ty_bool, ty_booli, ty_tup, ty_tupi, ty_tupn, ty_tups, ty_str, sl_fro, sl_scr, sl_tup, nl_t, nl_f, k_tup, k_scr, k_fro, k_ref, wipe, s_ref, m_app, ix_40, ix_41, ix_42, ix_43, mo_ref, gd_t, mo_bits, m_bits, at_0, at_1, at_2, at_3, at_last, Option.bind_some, Option.map_some, lit_0, lit_1, lit_2, lit_3, lit_4, lit_5, lit_6, implies_true, Int.zero_add, Int.toNat_natCast, at_nat, List.getElem?_map, rd_int, rd_non, rd_bl, rd_str, dq_int, dq_non, dq_str, n_non, n_int, n_tup, n_str, ty_stri, ty_strn, ty_strt, ty_tupb, t_ref, start,
      List.getElem?_cons_zero, List.getElem?_cons_succ, List.set_cons_zero, List.set_cons_succ, List.map_cons, List.map_nil, List.length_cons, List.length_nil, List.replicate, List.cons_append, List.nil_append, Nat.reduceAdd, Nat.reduceSub, Int.reduceEq, Int.reduceToNat, Int.reduceBEq, Nat.reduceBEq, beq_self_eq_true, Int.reduceBNe, D.bl.injEq, Int.reduceLT, Int.reduceLE, Int.reduceAdd, Int.reduceSub, Int.reduceNeg, String.reduceEq, Nat.reduceEqDiff, gc_self, gc_cell, not_true, not_false_iff, or_self, or_true, true_or, or_false, false_or, and_false, false_and, and_self, eq_self, decide_true, decide_false,
      decide_eq_true_eq, decide_eq_false_iff_not, beq_iff_eq, beq_eq_false_iff_ne, Bool.not_eq_true', Bool.not_eq_false', Bool.not_eq_eq_eq_not, bne_iff_ne, Bool.or_false, Bool.or_true, Bool.false_or, Bool.true_or, Bool.and_false, Bool.and_true, Bool.false_and, Bool.true_and, not_false_eq_true, not_true_eq_false, Bool.not_true, Bool.not_false, true_and, and_true, ne_eq, forall_const, if_true, if_false, true_implies, false_implies, reduceCtorEq, Bool.false_eq_true, Bool.true_eq_false])
local macro_rules
  | `(tactic| simp_wf) => `(tactic| (rw [wc]; bv_omega))
open Lean.Grind Al
end Lp
-- pre3
namespace Lp
open Lg
local macro_rules
  | `(tactic| bv_omega) => `(tactic| try simp only [exec, evs, evo, evc, evIt, asg, asgs, evt, e_non, e_bl, e_int, e_str, e_var, e_bin, e_neg, e_not, e_cmp, e_and, e_or, e_ite, e_call, e_prim, e_isi, e_ix, e_slice, e_tup, e_lst, e_comp, e_lrange, e_meth, e_chain, e_chain3,
      wn, wp_bind, wp_one, fn_M, q_M, q_R, n_M, ty_M, ty_ML, l_M, e_con, mo_index, e_ladd, madd_ss, e_fnv, e_rev, rev_tup, rev_scr, fn_int, fn_bl, fn_non, fn_str, fn_tup, fn_scr, fn_fro, fn_ref, sz_0, sz_1, sz_2, sz_3, sz_4, sz_5, sz_6, sz_7, sz_8, sz_9, sz_10, sz_11, sz_12, e_isi2, e_lrep, m_rep, e_glob, tb_len, tb_rng, tb_rng2, tb_enum, rd_tup0, rd_tup1, rd_tup2, rd_si, dq_tup, dq_tups, dq_nil, dq_sn, dq_ns, dq_si, dq_is, dq_st, dq_ts, dq_nt, dq_tn, dq_it, dq_ti, dq_ni, dq_in, snoc_get, snoc_set, snoc_len, n_bl, ty_listi, ty_lists, ty_listn, ty_listb, ty_listt, ty_listc, ty_listf, ty_listr, ty_tupc, ty_strc, ty_intc, ty_intt, ty_ints, ty_intn, ty_bools, ty_booln, ty_boolt, ty_boolc, ty_strb, dq_bl, c_isb, c_isnb, n_scr, n_ref,  wp_lift, wp_noexc, wp_ok, wp_exc, wp_bad, bind_ok, lift_ok, wp_ite, conj_bad, b_add, b_addT, b_addL, b_sub, b_mul, b_rep, b_fdiv, b_mod, pw_9, pw_12, pw_15, pw_18, pw_19, pw_20, pw_43, pw_45, b_shl, i_add, i_sub, i_mul, i_fdiv, i_mod, c_eq, c_ne, c_lt, c_le, c_gt, c_ge, c_is, c_isNot, p_len, p_abs, p_min2, p_max2, p_int, p_intb, p_tuple, p_list, p_sum, p_any, p_all,
      q_tup, q_scr, q_fro, l_scr, l_fro, q_ref, l_ref, x_int, t_bl, t_int, t_non, t_tup, t_scr, ty_int, ty_intb, ty_bool, ty_booli, ty_tup, ty_tupi, ty_tupn, ty_tups, ty_str, sl_fro, sl_scr, sl_tup, nl_t, nl_f, k_tup, k_scr, k_fro, k_ref, wipe, s_ref, m_app, ix_40, ix_41, ix_42, ix_43, mo_ref, gd_t, mo_bits, m_bits, at_0, at_1, at_2, at_3, at_last, Option.bind_some, Option.map_some, lit_0, lit_1, lit_2, lit_3, lit_4, lit_5, lit_6, implies_true, Int.zero_add, Int.toNat_natCast, at_nat, List.getElem?_map, rd_int, rd_non, rd_bl, rd_str, dq_int, dq_non, dq_str, n_non, n_int, n_tup, n_str, ty_stri, ty_strn, ty_strt, ty_tupb, t_ref, start,
      List.getElem?_cons_zero, List.getElem?_cons_succ, List.set_cons_zero, List.set_cons_succ, List.map_cons, List.map_nil, List.length_cons, List.length_nil, List.replicate, List.cons_append, List.nil_append, Nat.reduceAdd, Nat.reduceSub, Int.reduceEq, Int.reduceToNat, Int.reduceBEq, Nat.reduceBEq, beq_self_eq_true, Int.reduceBNe, D.bl.injEq, Int.reduceLT, Int.reduceLE, Int.reduceAdd, Int.reduceSub, Int.reduceNeg, String.reduceEq, Nat.reduceEqDiff, gc_self, gc_cell, not_true, not_false_iff, or_self, or_true, true_or, or_false, false_or, and_false, false_and, and_self, eq_self, decide_true, decide_false,
      decide_eq_true_eq, decide_eq_false_iff_not, beq_iff_eq, beq_eq_false_iff_ne, Bool.not_eq_true', Bool.not_eq_false', Bool.not_eq_eq_eq_not, bne_iff_ne, Bool.or_false, Bool.or_true, Bool.false_or, Bool.true_or, Bool.and_false, Bool.and_true, Bool.false_and, Bool.true_and, not_false_eq_true, not_true_eq_false, Bool.not_true, Bool.not_false, true_and, and_true, ne_eq, forall_const, if_true, if_false, true_implies, false_implies, reduceCtorEq, Bool.false_eq_true, Bool.true_eq_false])
local macro_rules
  | `(tactic| simp_wf) => `(tactic| (rw [wc]; bv_omega))
open Lean.Grind Al
section
variable {Y : Fld} {P : Pg} {sub : String → String → Option Bool} {k : Nat} {st : Store} {Q : D → Store → Prop} {Er : String → Store → Prop}
/-- the identity beside a matrix -/
def aug (n : Nat) (A : Nat → Nat → Y.T) : Nat → Nat → Y.T := fun i c => if c < n then A i c else if i = c - n then 1 else 0
theorem G.sumN (hY : IsFld Y) {n e f : Nat} {v : Nat → Y.T} (h : ∃ N A, 0 < N ∧ N < 2 ^ e ∧ A < 2 ^ e ∧ ∀ i, i < n → Y.Bd N A (v i)) (hn : n ≤ 100) (he : e + 7 ≤ f) : ∀ i, i ≤ n → G Y f (sumN i v) := fun i hi => by
  obtain ⟨N, A, hN, h1, h2, h3⟩ := h
  have key : ∀ i, i ≤ n → Y.Bd N (i * A) (Lp.sumN i v) := fun i => by
    induction i with
    | zero => intro _; exact fbd_zero hY hN _
    | succ i ih => intro hi; rw [Nat.succ_mul]; exact fbd_add hY (ih (by omega)) (h3 i (by omega))
  have p := Nat.pow_le_pow_right (show 0 < 2 by decide) he
  rw [Nat.pow_add] at p
  refine ⟨N, i * A, key i hi, by omega, ?_⟩
  have : i * A ≤ 100 * A := Nat.mul_le_mul_right _ (by omega)
  omega
theorem getD_some {piv : List Nat} {a : Nat} (ha : a < piv.length) : piv[a]? = some (piv.getD a 0) := by rw [List.getElem?_eq_getElem ha]; simp [List.getD, ha]
end
end Lp
-- pre3
namespace Lp
open Lg
local macro_rules
  | `(tactic| bv_omega) => `(tactic| try simp only [exec, evs, evo, evc, evIt, asg, asgs, evt, e_non, e_bl, e_int, e_str, e_var, e_bin, e_neg, e_not, e_cmp, e_and, e_or, e_ite, e_call, e_prim, e_isi, e_ix, e_slice, e_tup, e_lst, e_comp, e_lrange, e_meth, e_chain, e_chain3,
      wn, wp_bind, wp_one, fn_M, q_M, q_R, n_M, ty_M, ty_ML, l_M, e_con, mo_index, e_ladd, madd_ss, e_fnv, e_rev, rev_tup, rev_scr, fn_int, fn_bl, fn_non, fn_str, fn_tup, fn_scr, fn_fro, fn_ref, sz_0, sz_1, sz_2, sz_3, sz_4, sz_5, sz_6, sz_7, sz_8, sz_9, sz_10, sz_11, sz_12, e_isi2, e_lrep, m_rep, e_glob, tb_len, tb_rng, tb_rng2, tb_enum, rd_tup0, rd_tup1, rd_tup2, rd_si, dq_tup, dq_tups, dq_nil, dq_sn, dq_ns, dq_si, dq_is, dq_st, dq_ts, dq_nt, dq_tn, dq_it, dq_ti, dq_ni, dq_in, snoc_get, snoc_set, snoc_len, n_bl, ty_listi, ty_lists, ty_listn, ty_listb, ty_listt, ty_listc, ty_listf, ty_listr, ty_tupc, ty_strc, ty_intc, ty_intt, ty_ints, ty_intn, ty_bools, ty_booln, ty_boolt, ty_boolc, ty_strb, dq_bl, c_isb, c_isnb, n_scr, n_ref,  wp_lift, wp_noexc, wp_ok, wp_exc, wp_bad, bind_ok, lift_ok, wp_ite, conj_bad, b_add, b_addT, b_addL, b_sub, b_mul, b_rep, b_fdiv, b_mod, pw_9, pw_12, pw_15, pw_18, pw_19, pw_20, pw_43, pw_45, b_shl, i_add, i_sub, i_mul, i_fdiv, i_mod, c_eq, c_ne, c_lt, c_le, c_gt, c_ge, c_is, c_isNot, p_len, p_abs, p_min2, p_max2, p_int, p_intb, p_tuple, p_list, p_sum, p_any, p_all,
      q_tup, q_scr, q_fro, l_scr, l_fro, q_ref, l_ref, x_int, t_bl, t_int, t_non, t_tup, t_scr, ty_int, ty_intb, ty_bool, ty_booli, ty_tup, ty_tupi, ty_tupn, ty_tups, ty_str, sl_fro, sl_scr, sl_tup, nl_t, nl_f, k_tup, k_scr, k_fro, k_ref, wipe, s_ref, m_app, ix_40, ix_41, ix_42, ix_43, mo_ref, gd_t, mo_bits, m_bits, at_0, at_1, at_2, at_3, at_last, Option.bind_some, Option.map_some, lit_0, lit_1, lit_2, lit_3, lit_4, lit_5, lit_6, implies_true, Int.zero_add, Int.toNat_natCast, at_nat, List.getElem?_map, rd_int, rd_non, rd_bl, rd_str, dq_int, dq_non, dq_str, n_non, n_int, n_tup, n_str, ty_stri, ty_strn, ty_strt, ty_tupb, t_ref, start,
      List.getElem?_cons_zero, List.getElem?_cons_succ, List.set_cons_zero, List.set_cons_succ, List.map_cons, List.map_nil, List.length_cons, List.length_nil, List.replicate, List.cons_append, List.nil_append, Nat.reduceAdd, Nat.reduceSub, Int.reduceEq, Int.reduceToNat, Int.reduceBEq, Nat.reduceBEq, beq_self_eq_true, Int.reduceBNe, D.bl.injEq, Int.reduceLT, Int.reduceLE, Int.reduceAdd, Int.reduceSub, Int.reduceNeg, String.reduceEq, Nat.reduceEqDiff, gc_self, gc_cell, not_true, not_false_iff, or_self, or_true, true_or, or_false, false_or, and_false, false_and, and_self, eq_self, decide_true, decide_false,
      decide_eq_true_eq, decide_eq_false_iff_not, beq_iff_eq, beq_eq_false_iff_ne, Bool.not_eq_true', Bool.not_eq_false', Bool.not_eq_eq_eq_not, bne_iff_ne, Bool.or_false, Bool.or_true, Bool.false_or, Bool.true_or, Bool.and_false, Bool.and_true, Bool.false_and, Bool.true_and, not_false_eq_true, not_true_eq_false, Bool.not_true, Bool.not_false, true_and, and_true, ne_eq, forall_const, if_true, if_false, true_implies, false_implies, reduceCtorEq, Bool.false_eq_true, Bool.true_eq_false])
local macro_rules
  | `(tactic| simp_wf) => `(tactic| (rw [wc]; bv_omega))
open Lean.Grind Al
end Lp
-- pre3
namespace Lp
open Lg
local macro_rules
  | `(tactic| bv_omega) => `(tactic| try simp only [exec, evs, evo, evc, evIt, asg, asgs, evt, e_non, e_bl, e_int, e_str, e_var, e_bin, e_neg, e_not, e_cmp, e_and, e_or, e_ite, e_call, e_prim, e_isi, e_ix, e_slice, e_tup, e_lst, e_comp, e_lrange, e_meth, e_chain, e_chain3,
      wn, wp_bind, wp_one, fn_M, q_M, q_R, n_M, ty_M, ty_ML, l_M, e_con, mo_index, e_ladd, madd_ss, e_fnv, e_rev, rev_tup, rev_scr, fn_int, fn_bl, fn_non, fn_str, fn_tup, fn_scr, fn_fro, fn_ref, sz_0, sz_1, sz_2, sz_3, sz_4, sz_5, sz_6, sz_7, sz_8, sz_9, sz_10, sz_11, sz_12, e_isi2, e_lrep, m_rep, e_glob, tb_len, tb_rng, tb_rng2, tb_enum, rd_tup0, rd_tup1, rd_tup2, rd_si, dq_tup, dq_tups, dq_nil, dq_sn, dq_ns, dq_si, dq_is, dq_st, dq_ts, dq_nt, dq_tn, dq_it, dq_ti, dq_ni, dq_in, snoc_get, snoc_set, snoc_len, n_bl, ty_listi, ty_lists, ty_listn, ty_listb, ty_listt, ty_listc, ty_listf, ty_listr, ty_tupc, ty_strc, ty_intc, ty_intt, ty_ints, ty_intn, ty_bools, ty_booln, ty_boolt, ty_boolc, ty_strb, dq_bl, c_isb, c_isnb, n_scr, n_ref,  wp_lift, wp_noexc, wp_ok, wp_exc, wp_bad, bind_ok, lift_ok, wp_ite, conj_bad, b_add, b_addT, b_addL, b_sub, b_mul, b_rep, b_fdiv, b_mod, pw_9, pw_12, pw_15, pw_18, pw_19, pw_20, pw_43, pw_45, b_shl, i_add, i_sub, i_mul, i_fdiv, i_mod, c_eq, c_ne, c_lt, c_le, c_gt, c_ge, c_is, c_isNot, p_len, p_abs, p_min2, p_max2, p_int, p_intb, p_tuple, p_list, p_sum, p_any, p_all,
      q_tup, q_scr, q_fro, l_scr, l_fro, q_ref, l_ref, x_int, t_bl, t_int, t_non, t_tup, t_scr, ty_int, ty_intb, ty_bool, ty_booli, ty_tup, ty_tupi, ty_tupn, ty_tups, ty_str, sl_fro, sl_scr, sl_tup, nl_t, nl_f, k_tup, k_scr, k_fro, k_ref, wipe, s_ref, m_app, ix_40, ix_41, ix_42, ix_43, mo_ref, gd_t, mo_bits, m_bits, at_0, at_1, at_2, at_3, at_last, Option.bind_some, Option.map_some, lit_0, lit_1, lit_2, lit_3, lit_4, lit_5, lit_6, implies_true, Int.zero_add, Int.toNat_natCast, at_nat, List.getElem?_map, rd_int, rd_non, rd_bl, rd_str, dq_int, dq_non, dq_str, n_non, n_int, n_tup, n_str, ty_stri, ty_strn, ty_strt, ty_tupb, t_ref, start,
      List.getElem?_cons_zero, List.getElem?_cons_succ, List.set_cons_zero, List.set_cons_succ, List.map_cons, List.map_nil, List.length_cons, List.length_nil, List.replicate, List.cons_append, List.nil_append, Nat.reduceAdd, Nat.reduceSub, Int.reduceEq, Int.reduceToNat, Int.reduceBEq, Nat.reduceBEq, beq_self_eq_true, Int.reduceBNe, D.bl.injEq, Int.reduceLT, Int.reduceLE, Int.reduceAdd, Int.reduceSub, Int.reduceNeg, String.reduceEq, Nat.reduceEqDiff, gc_self, gc_cell, not_true, not_false_iff, or_self, or_true, true_or, or_false, false_or, and_false, false_and, and_self, eq_self, decide_true, decide_false,
      decide_eq_true_eq, decide_eq_false_iff_not, beq_iff_eq, beq_eq_false_iff_ne, Bool.not_eq_true', Bool.not_eq_false', Bool.not_eq_eq_eq_not, bne_iff_ne, Bool.or_false, Bool.or_true, Bool.false_or, Bool.true_or, Bool.and_false, Bool.and_true, Bool.false_and, Bool.true_and, not_false_eq_true, not_true_eq_false, Bool.not_true, Bool.not_false, true_and, and_true, ne_eq, forall_const, if_true, if_false, true_implies, false_implies, reduceCtorEq, Bool.false_eq_true, Bool.true_eq_false])
local macro_rules
  | `(tactic| simp_wf) => `(tactic| (rw [wc]; bv_omega))
open Lean.Grind Al
/-! ### determinants, by the last row -/
/-! ### sizes -/
end Lp
-- pre3
namespace Lp
open Lg
local macro_rules
  | `(tactic| bv_omega) => `(tactic| try simp only [exec, evs, evo, evc, evIt, asg, asgs, evt, e_non, e_bl, e_int, e_str, e_var, e_bin, e_neg, e_not, e_cmp, e_and, e_or, e_ite, e_call, e_prim, e_isi, e_ix, e_slice, e_tup, e_lst, e_comp, e_lrange, e_meth, e_chain, e_chain3,
      wn, wp_bind, wp_one, fn_M, q_M, q_R, n_M, ty_M, ty_ML, l_M, e_con, mo_index, e_ladd, madd_ss, e_fnv, e_rev, rev_tup, rev_scr, fn_int, fn_bl, fn_non, fn_str, fn_tup, fn_scr, fn_fro, fn_ref, sz_0, sz_1, sz_2, sz_3, sz_4, sz_5, sz_6, sz_7, sz_8, sz_9, sz_10, sz_11, sz_12, e_isi2, e_lrep, m_rep, e_glob, tb_len, tb_rng, tb_rng2, tb_enum, rd_tup0, rd_tup1, rd_tup2, rd_si, dq_tup, dq_tups, dq_nil, dq_sn, dq_ns, dq_si, dq_is, dq_st, dq_ts, dq_nt, dq_tn, dq_it, dq_ti, dq_ni, dq_in, snoc_get, snoc_set, snoc_len, n_bl, ty_listi, ty_lists, ty_listn, ty_listb, ty_listt, ty_listc, ty_listf, ty_listr, ty_tupc, ty_strc, ty_intc, ty_intt, ty_ints, ty_intn, ty_bools, ty_booln, ty_boolt, ty_boolc, ty_strb, dq_bl, c_isb, c_isnb, n_scr, n_ref,  wp_lift, wp_noexc, wp_ok, wp_exc, wp_bad, bind_ok, lift_ok, wp_ite, conj_bad, b_add, b_addT, b_addL, b_sub, b_mul, b_rep, b_fdiv, b_mod, pw_9, pw_12, pw_15, pw_18, pw_19, pw_20, pw_43, pw_45, b_shl, i_add, i_sub, i_mul, i_fdiv, i_mod, c_eq, c_ne, c_lt, c_le, c_gt, c_ge, c_is, c_isNot, p_len, p_abs, p_min2, p_max2, p_int, p_intb, p_tuple, p_list, p_sum, p_any, p_all,
      q_tup, q_scr, q_fro, l_scr, l_fro, q_ref, l_ref, x_int, t_bl, t_int, t_non, t_tup, t_scr, ty_int, ty_intb, ty_bool, ty_booli, ty_tup, ty_tupi, ty_tupn, ty_tups, ty_str, sl_fro, sl_scr, sl_tup, nl_t, nl_f, k_tup, k_scr, k_fro, k_ref, wipe, s_ref, m_app, ix_40, ix_41, ix_42, ix_43, mo_ref, gd_t, mo_bits, m_bits, at_0, at_1, at_2, at_3, at_last, Option.bind_some, Option.map_some, lit_0, lit_1, lit_2, lit_3, lit_4, lit_5, lit_6, implies_true, Int.zero_add, Int.toNat_natCast, at_nat, List.getElem?_map, rd_int, rd_non, rd_bl, rd_str, dq_int, dq_non, dq_str, n_non, n_int, n_tup, n_str, ty_stri, ty_strn, ty_strt, ty_tupb, t_ref, start,
      List.getElem?_cons_zero, List.getElem?_cons_succ, List.set_cons_zero, List.set_cons_succ, List.map_cons, List.map_nil, List.length_cons, List.length_nil, List.replicate, List.cons_append, List.nil_append, Nat.reduceAdd, Nat.reduceSub, Int.reduceEq, Int.reduceToNat, Int.reduceBEq, Nat.reduceBEq, beq_self_eq_true, Int.reduceBNe, D.bl.injEq, Int.reduceLT, Int.reduceLE, Int.reduceAdd, Int.reduceSub, Int.reduceNeg, String.reduceEq, Nat.reduceEqDiff, gc_self, gc_cell, not_true, not_false_iff, or_self, or_true, true_or, or_false, false_or, and_false, false_and, and_self, eq_self, decide_true, decide_false,
      decide_eq_true_eq, decide_eq_false_iff_not, beq_iff_eq, beq_eq_false_iff_ne, Bool.not_eq_true', Bool.not_eq_false', Bool.not_eq_eq_eq_not, bne_iff_ne, Bool.or_false, Bool.or_true, Bool.false_or, Bool.true_or, Bool.and_false, Bool.and_true, Bool.false_and, Bool.true_and, not_false_eq_true, not_true_eq_false, Bool.not_true, Bool.not_false, true_and, and_true, ne_eq, forall_const, if_true, if_false, true_implies, false_implies, reduceCtorEq, Bool.false_eq_true, Bool.true_eq_false])
local macro_rules
  | `(tactic| simp_wf) => `(tactic| (rw [wc]; bv_omega))
open Lean.Grind Al
/-! ### sizes by determinants -/
end Lp
-- pre3
namespace Lp
open Lg
local macro_rules
  | `(tactic| bv_omega) => `(tactic| try simp only [exec, evs, evo, evc, evIt, asg, asgs, evt, e_non, e_bl, e_int, e_str, e_var, e_bin, e_neg, e_not, e_cmp, e_and, e_or, e_ite, e_call, e_prim, e_isi, e_ix, e_slice, e_tup, e_lst, e_comp, e_lrange, e_meth, e_chain, e_chain3,
      wn, wp_bind, wp_one, fn_M, q_M, q_R, n_M, ty_M, ty_ML, l_M, e_con, mo_index, e_ladd, madd_ss, e_fnv, e_rev, rev_tup, rev_scr, fn_int, fn_bl, fn_non, fn_str, fn_tup, fn_scr, fn_fro, fn_ref, sz_0, sz_1, sz_2, sz_3, sz_4, sz_5, sz_6, sz_7, sz_8, sz_9, sz_10, sz_11, sz_12, e_isi2, e_lrep, m_rep, e_glob, tb_len, tb_rng, tb_rng2, tb_enum, rd_tup0, rd_tup1, rd_tup2, rd_si, dq_tup, dq_tups, dq_nil, dq_sn, dq_ns, dq_si, dq_is, dq_st, dq_ts, dq_nt, dq_tn, dq_it, dq_ti, dq_ni, dq_in, snoc_get, snoc_set, snoc_len, n_bl, ty_listi, ty_lists, ty_listn, ty_listb, ty_listt, ty_listc, ty_listf, ty_listr, ty_tupc, ty_strc, ty_intc, ty_intt, ty_ints, ty_intn, ty_bools, ty_booln, ty_boolt, ty_boolc, ty_strb, dq_bl, c_isb, c_isnb, n_scr, n_ref,  wp_lift, wp_noexc, wp_ok, wp_exc, wp_bad, bind_ok, lift_ok, wp_ite, conj_bad, b_add, b_addT, b_addL, b_sub, b_mul, b_rep, b_fdiv, b_mod, pw_9, pw_12, pw_15, pw_18, pw_19, pw_20, pw_43, pw_45, b_shl, i_add, i_sub, i_mul, i_fdiv, i_mod, c_eq, c_ne, c_lt, c_le, c_gt, c_ge, c_is, c_isNot, p_len, p_abs, p_min2, p_max2, p_int, p_intb, p_tuple, p_list, p_sum, p_any, p_all,
      q_tup, q_scr, q_fro, l_scr, l_fro, q_ref, l_ref, x_int, t_bl, t_int, t_non, t_tup, t_scr, ty_int, ty_intb, ty_bool, ty_booli, ty_tup, ty_tupi, ty_tupn, ty_tups, ty_str, sl_fro, sl_scr, sl_tup, nl_t, nl_f, k_tup, k_scr, k_fro, k_ref, wipe, s_ref, m_app, ix_40, ix_41, ix_42, ix_43, mo_ref, gd_t, mo_bits, m_bits, at_0, at_1, at_2, at_3, at_last, Option.bind_some, Option.map_some, lit_0, lit_1, lit_2, lit_3, lit_4, lit_5, lit_6, implies_true, Int.zero_add, Int.toNat_natCast, at_nat, List.getElem?_map, rd_int, rd_non, rd_bl, rd_str, dq_int, dq_non, dq_str, n_non, n_int, n_tup, n_str, ty_stri, ty_strn, ty_strt, ty_tupb, t_ref, start,
      List.getElem?_cons_zero, List.getElem?_cons_succ, List.set_cons_zero, List.set_cons_succ, List.map_cons, List.map_nil, List.length_cons, List.length_nil, List.replicate, List.cons_append, List.nil_append, Nat.reduceAdd, Nat.reduceSub, Int.reduceEq, Int.reduceToNat, Int.reduceBEq, Nat.reduceBEq, beq_self_eq_true, Int.reduceBNe, D.bl.injEq, Int.reduceLT, Int.reduceLE, Int.reduceAdd, Int.reduceSub, Int.reduceNeg, String.reduceEq, Nat.reduceEqDiff, gc_self, gc_cell, not_true, not_false_iff, or_self, or_true, true_or, or_false, false_or, and_false, false_and, and_self, eq_self, decide_true, decide_false,
      decide_eq_true_eq, decide_eq_false_iff_not, beq_iff_eq, beq_eq_false_iff_ne, Bool.not_eq_true', Bool.not_eq_false', Bool.not_eq_eq_eq_not, bne_iff_ne, Bool.or_false, Bool.or_true, Bool.false_or, Bool.true_or, Bool.and_false, Bool.and_true, Bool.false_and, Bool.true_and, not_false_eq_true, not_true_eq_false, Bool.not_true, Bool.not_false, true_and, and_true, ne_eq, forall_const, if_true, if_false, true_implies, false_implies, reduceCtorEq, Bool.false_eq_true, Bool.true_eq_false])
local macro_rules
  | `(tactic| simp_wf) => `(tactic| (rw [wc]; bv_omega))
open Lean.Grind Al
/-! ### what the elimination of a matrix beside the identity tells -/
end Lp
-- pre3
namespace Lp
open Lg
local macro_rules
  | `(tactic| bv_omega) => `(tactic| try simp only [exec, evs, evo, evc, evIt, asg, asgs, evt, e_non, e_bl, e_int, e_str, e_var, e_bin, e_neg, e_not, e_cmp, e_and, e_or, e_ite, e_call, e_prim, e_isi, e_ix, e_slice, e_tup, e_lst, e_comp, e_lrange, e_meth, e_chain, e_chain3,
      wn, wp_bind, wp_one, fn_M, q_M, q_R, n_M, ty_M, ty_ML, l_M, e_con, mo_index, e_ladd, madd_ss, e_fnv, e_rev, rev_tup, rev_scr, fn_int, fn_bl, fn_non, fn_str, fn_tup, fn_scr, fn_fro, fn_ref, sz_0, sz_1, sz_2, sz_3, sz_4, sz_5, sz_6, sz_7, sz_8, sz_9, sz_10, sz_11, sz_12, e_isi2, e_lrep, m_rep, e_glob, tb_len, tb_rng, tb_rng2, tb_enum, rd_tup0, rd_tup1, rd_tup2, rd_si, dq_tup, dq_tups, dq_nil, dq_sn, dq_ns, dq_si, dq_is, dq_st, dq_ts, dq_nt, dq_tn, dq_it, dq_ti, dq_ni, dq_in, snoc_get, snoc_set, snoc_len, n_bl, ty_listi, ty_lists, ty_listn, ty_listb, ty_listt, ty_listc, ty_listf, ty_listr, ty_tupc, ty_strc, ty_intc, ty_intt, ty_ints, ty_intn, ty_bools, ty_booln, ty_boolt, ty_boolc, ty_strb, dq_bl, c_isb, c_isnb, n_scr, n_ref,  wp_lift, wp_noexc, wp_ok, wp_exc, wp_bad, bind_ok, lift_ok, wp_ite, conj_bad, b_add, b_addT, b_addL, b_sub, b_mul, b_rep, b_fdiv, b_mod, pw_9, pw_12, pw_15, pw_18, pw_19, pw_20, pw_43, pw_45, b_shl, i_add, i_sub, i_mul, i_fdiv, i_mod, c_eq, c_ne, c_lt, c_le, c_gt, c_ge, c_is, c_isNot, p_len, p_abs, p_min2, p_max2, p_int, p_intb, p_tuple, p_list, p_sum, p_any, p_all,
      q_tup, q_scr, q_fro, l_scr, l_fro, q_ref, l_ref, x_int, t_bl, t_int, t_non, t_tup, t_scr, ty_int, ty_intb, ty_bool, ty_booli, ty_tup, ty_tupi, ty_tupn, ty_tups, ty_str, sl_fro, sl_scr, sl_tup, nl_t, nl_f, k_tup, k_scr, k_fro, k_ref, wipe, s_ref, m_app, ix_40, ix_41, ix_42, ix_43, mo_ref, gd_t, mo_bits, m_bits, at_0, at_1, at_2, at_3, at_last, Option.bind_some, Option.map_some, lit_0, lit_1, lit_2, lit_3, lit_4, lit_5, lit_6, implies_true, Int.zero_add, Int.toNat_natCast, at_nat, List.getElem?_map, rd_int, rd_non, rd_bl, rd_str, dq_int, dq_non, dq_str, n_non, n_int, n_tup, n_str, ty_stri, ty_strn, ty_strt, ty_tupb, t_ref, start,
      List.getElem?_cons_zero, List.getElem?_cons_succ, List.set_cons_zero, List.set_cons_succ, List.map_cons, List.map_nil, List.length_cons, List.length_nil, List.replicate, List.cons_append, List.nil_append, Nat.reduceAdd, Nat.reduceSub, Int.reduceEq, Int.reduceToNat, Int.reduceBEq, Nat.reduceBEq, beq_self_eq_true, Int.reduceBNe, D.bl.injEq, Int.reduceLT, Int.reduceLE, Int.reduceAdd, Int.reduceSub, Int.reduceNeg, String.reduceEq, Nat.reduceEqDiff, gc_self, gc_cell, not_true, not_false_iff, or_self, or_true, true_or, or_false, false_or, and_false, false_and, and_self, eq_self, decide_true, decide_false,
      decide_eq_true_eq, decide_eq_false_iff_not, beq_iff_eq, beq_eq_false_iff_ne, Bool.not_eq_true', Bool.not_eq_false', Bool.not_eq_eq_eq_not, bne_iff_ne, Bool.or_false, Bool.or_true, Bool.false_or, Bool.true_or, Bool.and_false, Bool.and_true, Bool.false_and, Bool.true_and, not_false_eq_true, not_true_eq_false, Bool.not_true, Bool.not_false, true_and, and_true, ne_eq, forall_const, if_true, if_false, true_implies, false_implies, reduceCtorEq, Bool.false_eq_true, Bool.true_eq_false])
local macro_rules
  | `(tactic| simp_wf) => `(tactic| (rw [wc]; bv_omega))
open Lean.Grind Al
end Lp
-- pre3
namespace Lp
open Lg
local macro_rules
  | `(tactic| bv_omega) => `(tactic| try simp only [exec, evs, evo, evc, evIt, asg, asgs, evt, e_non, e_bl, e_int, e_str, e_var, e_bin, e_neg, e_not, e_cmp, e_and, e_or, e_ite, e_call, e_prim, e_isi, e_ix, e_slice, e_tup, e_lst, e_comp, e_lrange, e_meth, e_chain, e_chain3,
      wn, wp_bind, wp_one, fn_M, q_M, q_R, n_M, ty_M, ty_ML, l_M, e_con, mo_index, e_ladd, madd_ss, e_fnv, e_rev, rev_tup, rev_scr, fn_int, fn_bl, fn_non, fn_str, fn_tup, fn_scr, fn_fro, fn_ref, sz_0, sz_1, sz_2, sz_3, sz_4, sz_5, sz_6, sz_7, sz_8, sz_9, sz_10, sz_11, sz_12, e_isi2, e_lrep, m_rep, e_glob, tb_len, tb_rng, tb_rng2, tb_enum, rd_tup0, rd_tup1, rd_tup2, rd_si, dq_tup, dq_tups, dq_nil, dq_sn, dq_ns, dq_si, dq_is, dq_st, dq_ts, dq_nt, dq_tn, dq_it, dq_ti, dq_ni, dq_in, snoc_get, snoc_set, snoc_len, n_bl, ty_listi, ty_lists, ty_listn, ty_listb, ty_listt, ty_listc, ty_listf, ty_listr, ty_tupc, ty_strc, ty_intc, ty_intt, ty_ints, ty_intn, ty_bools, ty_booln, ty_boolt, ty_boolc, ty_strb, dq_bl, c_isb, c_isnb, n_scr, n_ref,  wp_lift, wp_noexc, wp_ok, wp_exc, wp_bad, bind_ok, lift_ok, wp_ite, conj_bad, b_add, b_addT, b_addL, b_sub, b_mul, b_rep, b_fdiv, b_mod, pw_9, pw_12, pw_15, pw_18, pw_19, pw_20, pw_43, pw_45, b_shl, i_add, i_sub, i_mul, i_fdiv, i_mod, c_eq, c_ne, c_lt, c_le, c_gt, c_ge, c_is, c_isNot, p_len, p_abs, p_min2, p_max2, p_int, p_intb, p_tuple, p_list, p_sum, p_any, p_all,
      q_tup, q_scr, q_fro, l_scr, l_fro, q_ref, l_ref, x_int, t_bl, t_int, t_non, t_tup, t_scr, ty_int, ty_intb, ty_bool, ty_booli, ty_tup, ty_tupi, ty_tupn, ty_tups, ty_str, sl_fro, sl_scr, sl_tup, nl_t, nl_f, k_tup, k_scr, k_fro, k_ref, wipe, s_ref, m_app, ix_40, ix_41, ix_42, ix_43, mo_ref, gd_t, mo_bits, m_bits, at_0, at_1, at_2, at_3, at_last, Option.bind_some, Option.map_some, lit_0, lit_1, lit_2, lit_3, lit_4, lit_5, lit_6, implies_true, Int.zero_add, Int.toNat_natCast, at_nat, List.getElem?_map, rd_int, rd_non, rd_bl, rd_str, dq_int, dq_non, dq_str, n_non, n_int, n_tup, n_str, ty_stri, ty_strn, ty_strt, ty_tupb, t_ref, start,
      List.getElem?_cons_zero, List.getElem?_cons_succ, List.set_cons_zero, List.set_cons_succ, List.map_cons, List.map_nil, List.length_cons, List.length_nil, List.replicate, List.cons_append, List.nil_append, Nat.reduceAdd, Nat.reduceSub, Int.reduceEq, Int.reduceToNat, Int.reduceBEq, Nat.reduceBEq, beq_self_eq_true, Int.reduceBNe, D.bl.injEq, Int.reduceLT, Int.reduceLE, Int.reduceAdd, Int.reduceSub, Int.reduceNeg, String.reduceEq, Nat.reduceEqDiff, gc_self, gc_cell, not_true, not_false_iff, or_self, or_true, true_or, or_false, false_or, and_false, false_and, and_self, eq_self, decide_true, decide_false,
      decide_eq_true_eq, decide_eq_false_iff_not, beq_iff_eq, beq_eq_false_iff_ne, Bool.not_eq_true', Bool.not_eq_false', Bool.not_eq_eq_eq_not, bne_iff_ne, Bool.or_false, Bool.or_true, Bool.false_or, Bool.true_or, Bool.and_false, Bool.and_true, Bool.false_and, Bool.true_and, not_false_eq_true, not_true_eq_false, Bool.not_true, Bool.not_false, true_and, and_true, ne_eq, forall_const, if_true, if_false, true_implies, false_implies, reduceCtorEq, Bool.false_eq_true, Bool.true_eq_false])
local macro_rules
  | `(tactic| simp_wf) => `(tactic| (rw [wc]; bv_omega))
open Lean.Grind Al
/-! ### values of polynomials at matrices -/
section
variable {R : Type} [CommRing R]
def ev (n : Nat) (a : Nat → Nat → R) : List R → Nat → Nat → R
  | [], _, _ => 0
  | c :: r, i, j => mmul n (ev n a r) a i j + c * idm i j
theorem sumN_front {n : Nat} {f : Nat → R} : sumN (n + 1) f = f 0 + sumN n fun t => f (t + 1) := by
  induction n with
  | zero => show (0 : R) + f 0 = f 0 + 0; grind
  | succ n ih => show sumN (n + 1) f + f (n + 1) = f 0 + (sumN n (fun t => f (t + 1)) + f (n + 1)); rw [ih]; grind
theorem ev_sum {n : Nat} {a : Nat → Nat → R} : ∀ (g : List R) (i j : Nat), ev n a g i j = sumN g.length fun t => g.getD t 0 * mp n a t i j
  | [], _, _ => rfl
  | c :: r, i, j => by
    show mmul n (ev n a r) a i j + c * idm i j = sumN (r.length + 1) _
    rw [sumN_front]
    have e1 : mmul n (ev n a r) a i j = sumN r.length fun t => (c :: r).getD (t + 1) 0 * mp n a (t + 1) i j := by
      unfold mmul
      have e2 : (fun s => ev n a r i s * a s j) = fun s => sumN r.length fun t => r.getD t 0 * mp n a t i s * a s j := funext fun s => by rw [ev_sum r i s, sumN_mulr]
      rw [e2, sumN_swap]
      refine sumN_congr fun t ht => ?_
      show _ = r.getD t 0 * mmul n (mp n a t) a i j
      unfold mmul
      rw [← sumN_mul]
      exact sumN_congr fun s _ => by grind
    rw [e1]
    show _ = c * idm i j + _
    grind
end
structure HasEv (P : Pg) : Prop where
  inv : HasInv P
  mat : HasMat P
  need_square : P.fn "need_square" = some Fn.f_need_square
  zero_matrix : P.fn "zero_matrix" = some Fn.f_zero_matrix
  plus : P.fn "plus" = some Fn.f_plus
  times : P.fn "times" = some Fn.f_times
  dot : P.fn "dot" = some Fn.f_dot
  transposed : P.fn "transposed" = some Fn.f_transposed
  scaled : P.fn "scaled" = some Fn.f_scaled
  identity : P.fn "identity" = some Fn.f_identity
  evaluated : P.fn "evaluated" = some Fn.f_evaluated
section
variable {X : Dom} {P : Pg} {sub : String → String → Option Bool} {k : Nat} {st : Store} {m n : Nat}
theorem zero_matrix_ok (h : HasMat P) (hz : P.fn "zero_matrix" = some Fn.f_zero_matrix) (hX : IsDom X) (hm : m ≤ 1000) (hn : n ≤ 1000) : callF P sub (k + 5) "zero_matrix" [X.d, .int (m : Nat), .int (n : Nat)] st = .ok (encM X m n fun _ _ => 0) st := by
  apply of_wp
  refine wcall hz rfl ?_
  dsimp only [Fn.f_zero_matrix]
  rw [wc]; bv_omega
  rw [need_X h hX]; bv_omega
  rw [wc]; bv_omega
  refine ⟨rng_fine (by omega) (by omega) (by omega) (by omega), ?_⟩
  refine wmapN (f := fun i => encR X n fun _ => 0) rfl (size_ok (by omega)) (fun i hi => ?_) ?_
  · bv_omega
    refine ⟨rng_fine (by omega) (by omega) (by omega) (by omega), ?_⟩
    refine wmapN (f := fun j => X.enc 0) rfl (size_ok (by omega)) (fun j hj => ?_) ?_
    · bv_omega
      rw [zero_ok h.ring.zero hX]; bv_omega
    · bv_omega
      rfl
  · bv_omega
    rfl
end
section
variable {Y : Fld} {P : Pg} {sub : String → String → Option Bool} {k : Nat} {st : Store} {n : Nat}
theorem ev_bd (hY : IsFld Y) {a : Nat → Nat → Y.T} (hn : n ≤ 4) (ha : ∀ i j, Y.Bd 6 600 (a i j)) : ∀ (g : List Y.T), (∀ x ∈ g, Y.Bd 6 600 x) → ∀ i j, Y.Bd (6 ^ g.length) (3000 ^ g.length) (ev n a g i j)
  | [], _, i, j => fbd_zero hY (show 0 < 1 by decide) _
  | c :: r, h, i, j => by
    have h6 : 6 ^ r.length ≤ 3000 ^ r.length := Nat.pow_le_pow_left (by decide) _
    have p6 : 0 < 6 ^ r.length := Nat.pow_pos (by decide)
    have b1 := mmul_bd (X := fDom Y) (n := n) (l := 1) (l' := 1) (.fld hY) (ev_bd hY hn ha r fun x hx => h x (List.mem_cons_of_mem _ hx)) ha i j
    have b2 : Y.Bd (6 * 6 ^ r.length) (600 * 6 ^ r.length) (c * idm i j) := by
      have := fbd_scale (M := 6 ^ r.length) hY p6 (h c List.mem_cons_self)
      unfold idm
      split
      · rw [show c * 1 = c by grind]; exact this
      · rw [show c * 0 = 0 by grind]; exact fbd_zero hY (by omega) _
    rw [List.length_cons, Nat.pow_succ, Nat.pow_succ]
    rw [Nat.mul_comm 6] at b2
    refine fbd_mono hY ?_ (fbd_add hY b1 b2)
    have : n * (3000 ^ r.length * 600) ≤ 4 * (3000 ^ r.length * 600) := Nat.mul_le_mul_right _ hn
    omega
theorem evaluated_ok (h : HasEv P) (hY : IsFld Y) {a : Nat → Nat → Y.T} {g : List Y.T} (hn : n ≤ 4) (ha : ∀ i j, Y.Bd 6 600 (a i j)) (hl : g.length ≤ 10) (hg : ∀ x ∈ g, Y.Bd 6 600 x) :
    callF P sub (k + 9) "evaluated" [Y.d, .tup (g.map Y.enc), mF Y n n a] st = .ok (mF Y n n (ev n a g)) st := by
  apply of_wp
  refine wcall h.evaluated rfl ?_
  dsimp only [Fn.f_evaluated]
  rw [wc]; bv_omega
  rw [need_field_Y (k := k + 5) h.inv hY]; bv_omega
  rw [wc]; bv_omega
  rw [show callF P sub (k + 8) "need_square" [mF Y n n a] st = .ok .non st from need_square_ok (X := fDom Y) (k := k + 6) h.mat.need_shape h.need_square]; bv_omega
  have em : mF Y n n a = .tup [.int n, .int n, .tup (tb n fun i => .tup (tb n fun c => Y.enc (a i c)))] := rfl
  rw [wc]; bv_omega
  rw [em]; bv_omega
  rw [show callF P sub (k + 8) "zero_matrix" [Y.d, .int (n : Nat), .int (n : Nat)] st = .ok (mF Y n n fun _ _ => 0) st from zero_matrix_ok (X := fDom Y) (k := k + 3) h.mat h.zero_matrix (.fld hY) (by omega) (by omega)]; bv_omega
  rw [wc]; bv_omega
  rw [← List.map_reverse, show g.reverse.map Y.enc = tb g.length fun j => Y.enc (cf g.reverse j) from list_tb (X := fDom Y) (List.length_reverse ..)]
  refine wforN (fun i env s => (∃ z, env = [some Y.d, some (.tup (g.map Y.enc)), some (.tup [.int (n : Nat), .int (n : Nat), .tup (tb n fun i => .tup (tb n fun c => Y.enc (a i c)))]), some (mF Y n n (ev n a (g.reverse.take i).reverse)), z]) ∧ st = s) (fun i env s hI => rfl) (fun i env s hi hI => ?_) (fun env s hI => ?_) _ _ ⟨⟨none, rfl⟩, rfl⟩
  · obtain ⟨⟨z, rfl⟩, rfl⟩ := hI
    have hir : i < g.reverse.length := by rw [List.length_reverse]; exact hi
    have hmem : cf g.reverse i ∈ g := by
      rw [cf_get hir]
      exact List.mem_reverse.mp (List.getElem_mem hir)
    have hlen : (g.reverse.take i).reverse.length = i := by rw [List.length_reverse, List.length_take]; omega
    have hb := ev_bd hY hn ha (g.reverse.take i).reverse fun x hx => hg x (List.mem_reverse.mp (List.mem_of_mem_take (List.mem_reverse.mp hx)))
    rw [hlen] at hb
    have p6 : 6 ^ i ≤ 6 ^ 10 := Nat.pow_le_pow_right (by decide) (by omega)
    have p3 : 3000 ^ i ≤ 3000 ^ 10 := Nat.pow_le_pow_right (by decide) (by omega)
    have c1 : 6 ^ 10 * 6 < 2 ^ 2000 := by decide +kernel
    have c2 : 4 * (3000 ^ 10 * 600) < 2 ^ 2000 := by decide +kernel
    have c3 : n * (3000 ^ i * 600) ≤ 4 * (3000 ^ 10 * 600) := Nat.mul_le_mul hn (Nat.mul_le_mul_right _ p3)
    have f1 : DFit 1 (6 ^ i) (3000 ^ i) := ⟨by decide, by omega, by omega⟩
    have f2 : DFit 1 6 600 := ⟨by decide, by decide, by decide⟩
    have f3 : DFit (1 + 1) (6 ^ i * 6) (n * (3000 ^ i * 600)) := ⟨by decide, by omega, by omega⟩
    have e1 : callF P sub (k + 8) "times" [Y.d, mF Y n n (ev n a (g.reverse.take i).reverse), mF Y n n a] st = .ok (mF Y n n (mmul n (ev n a (g.reverse.take i).reverse) a)) st :=
      times_ok (X := fDom Y) (k := k + 2) (l := 1) (l' := 1) h.mat h.dot h.transposed h.times (.fld hY) (by omega) (by omega) (by omega) hb ha f1 f2 f3
    have e2 : callF P sub (k + 8) "identity" [Y.d, .int (n : Nat)] st = .ok (mF Y n n idm) st := identity_ok (X := fDom Y) (k := k + 3) h.mat h.identity (.fld hY) (by omega)
    have bi : ∀ i j, Y.Bd 1 1 (idm i j : Y.T) := fun i j => by
      unfold idm
      split
      · exact fbd_one hY (by decide) (by decide)
      · exact fbd_zero hY (by decide) _
    have e3 : callF P sub (k + 8) "scaled" [Y.d, Y.enc (cf g.reverse i), mF Y n n idm] st = .ok (mF Y n n fun i' j => cf g.reverse i * idm i' j) st :=
      scaled_ok (X := fDom Y) (k := k + 3) (l := 1) (l' := 1) h.mat h.scaled (.fld hY) (by omega) (by omega) (hg _ hmem) bi f2 ⟨by decide, by decide, by decide⟩ ⟨by decide, by decide⟩
    have e4 : callF P sub (k + 8) "plus" [Y.d, mF Y n n (mmul n (ev n a (g.reverse.take i).reverse) a), mF Y n n fun i' j => cf g.reverse i * idm i' j] st = .ok (mF Y n n fun i' j => mmul n (ev n a (g.reverse.take i).reverse) a i' j + cf g.reverse i * idm i' j) st :=
      plus_ok (X := fDom Y) (k := k + 3) (l := 1) (l' := 1) h.mat h.plus (.fld hY) (by omega) (by omega) (fun i j => mmul_bd (X := fDom Y) (l := 1) (l' := 1) (.fld hY) hb ha i j) (fun i' j => fbd_mul hY (hg _ hmem) (bi i' j)) ⟨by decide, by omega, by omega⟩ ⟨by decide, by decide, by decide⟩
    bv_omega
    rw [wc]; bv_omega
    rw [show callF P sub (k + 8) "times" [Y.d, mF Y n n (ev n a (g.reverse.take i).reverse), .tup [.int (n : Nat), .int (n : Nat), .tup (tb n fun i => .tup (tb n fun c => Y.enc (a i c)))]] st = _ from e1]; bv_omega
    rw [e2]; bv_omega
    rw [e3]; bv_omega
    rw [e4]; bv_omega
    have et : (g.reverse.take (i + 1)).reverse = cf g.reverse i :: (g.reverse.take i).reverse := by
      rw [List.take_add_one, List.getElem?_eq_getElem hir, cf_get hir]
      simp
    rw [et]
    try exact ⟨_, rfl⟩
    try exact ⟨⟨_, rfl⟩, rfl⟩
    try rfl
  · obtain ⟨⟨z, rfl⟩, rfl⟩ := hI
    bv_omega
    rw [wc]; bv_omega
    have et : (g.reverse.take g.length).reverse = g := by
      rw [List.take_of_length_le (by rw [List.length_reverse]; omega), List.reverse_reverse]
    rw [et]
    try exact ⟨rfl, rfl⟩
    try rfl
end
end Lp
-- pre3
namespace Lp
open Lg
local macro_rules
  | `(tactic| bv_omega) => `(tactic| try simp only [exec, evs, evo, evc, evIt, asg, asgs, evt, e_non, e_bl, e_int, e_str, e_var, e_bin, e_neg, e_not, e_cmp, e_and, e_or, e_ite, e_call, e_prim, e_isi, e_ix, e_slice, e_tup, e_lst, e_comp, e_lrange, e_meth, e_chain, e_chain3,
      wn, wp_bind, wp_one, fn_M, q_M, q_R, n_M, ty_M, ty_ML, l_M, e_con, mo_index, e_ladd, madd_ss, e_fnv, e_rev, rev_tup, rev_scr, fn_int, fn_bl, fn_non, fn_str, fn_tup, fn_scr, fn_fro, fn_ref, sz_0, sz_1, sz_2, sz_3, sz_4, sz_5, sz_6, sz_7, sz_8, sz_9, sz_10, sz_11, sz_12, e_isi2, e_lrep, m_rep, e_glob, tb_len, tb_rng, tb_rng2, tb_enum, rd_tup0, rd_tup1, rd_tup2, rd_si, dq_tup, dq_tups, dq_nil, dq_sn, dq_ns, dq_si, dq_is, dq_st, dq_ts, dq_nt, dq_tn, dq_it, dq_ti, dq_ni, dq_in, snoc_get, snoc_set, snoc_len, n_bl, ty_listi, ty_lists, ty_listn, ty_listb, ty_listt, ty_listc, ty_listf, ty_listr, ty_tupc, ty_strc, ty_intc, ty_intt, ty_ints, ty_intn, ty_bools, ty_booln, ty_boolt, ty_boolc, ty_strb, dq_bl, c_isb, c_isnb, n_scr, n_ref,  wp_lift, wp_noexc, wp_ok, wp_exc, wp_bad, bind_ok, lift_ok, wp_ite, conj_bad, b_add, b_addT, b_addL, b_sub, b_mul, b_rep, b_fdiv, b_mod, pw_9, pw_12, pw_15, pw_18, pw_19, pw_20, pw_43, pw_45, b_shl, i_add, i_sub, i_mul, i_fdiv, i_mod, c_eq, c_ne, c_lt, c_le, c_gt, c_ge, c_is, c_isNot, p_len, p_abs, p_min2, p_max2, p_int, p_intb, p_tuple, p_list, p_sum, p_any, p_all,
      q_tup, q_scr, q_fro, l_scr, l_fro, q_ref, l_ref, x_int, t_bl, t_int, t_non, t_tup, t_scr, ty_int, ty_intb, ty_bool, ty_booli, ty_tup, ty_tupi, ty_tupn, ty_tups, ty_str, sl_fro, sl_scr, sl_tup, nl_t, nl_f, k_tup, k_scr, k_fro, k_ref, wipe, s_ref, m_app, ix_40, ix_41, ix_42, ix_43, mo_ref, gd_t, mo_bits, m_bits, at_0, at_1, at_2, at_3, at_last, Option.bind_some, Option.map_some, lit_0, lit_1, lit_2, lit_3, lit_4, lit_5, lit_6, implies_true, Int.zero_add, Int.toNat_natCast, at_nat, List.getElem?_map, rd_int, rd_non, rd_bl, rd_str, dq_int, dq_non, dq_str, n_non, n_int, n_tup, n_str, ty_stri, ty_strn, ty_strt, ty_tupb, t_ref, start,
      List.getElem?_cons_zero, List.getElem?_cons_succ, List.set_cons_zero, List.set_cons_succ, List.map_cons, List.map_nil, List.length_cons, List.length_nil, List.replicate, List.cons_append, List.nil_append, Nat.reduceAdd, Nat.reduceSub, Int.reduceEq, Int.reduceToNat, Int.reduceBEq, Nat.reduceBEq, beq_self_eq_true, Int.reduceBNe, D.bl.injEq, Int.reduceLT, Int.reduceLE, Int.reduceAdd, Int.reduceSub, Int.reduceNeg, String.reduceEq, Nat.reduceEqDiff, gc_self, gc_cell, not_true, not_false_iff, or_self, or_true, true_or, or_false, false_or, and_false, false_and, and_self, eq_self, decide_true, decide_false,
      decide_eq_true_eq, decide_eq_false_iff_not, beq_iff_eq, beq_eq_false_iff_ne, Bool.not_eq_true', Bool.not_eq_false', Bool.not_eq_eq_eq_not, bne_iff_ne, Bool.or_false, Bool.or_true, Bool.false_or, Bool.true_or, Bool.and_false, Bool.and_true, Bool.false_and, Bool.true_and, not_false_eq_true, not_true_eq_false, Bool.not_true, Bool.not_false, true_and, and_true, ne_eq, forall_const, if_true, if_false, true_implies, false_implies, reduceCtorEq, Bool.false_eq_true, Bool.true_eq_false])
local macro_rules
  | `(tactic| simp_wf) => `(tactic| (rw [wc]; bv_omega))
open Lean.Grind Al
structure HasK23b (P : Pg) : Prop where
  lw : HasLaw P
  evl : HasEv P
  small : P.fn "_law_small" = some Fn.f__law_small
  lmatrix : P.fn "_law_matrix" = some Fn.f__law_matrix
  ldot : P.fn "_law_dot" = some Fn.f__law_dot
  column : P.fn "_law_column" = some Fn.f__law_column
  product : P.fn "_law_product" = some Fn.f__law_product
  lidentity : P.fn "_law_identity" = some Fn.f__law_identity
  same : P.fn "_law_same" = some Fn.f__law_same
  part_b : P.fn "_law_part_b" = some Fn.f__law_part_b_ec9db8
section
variable {P : Pg} {sub : String → String → Option Bool} {k : Nat} {st : Store} {Q : D → Store → Prop} {Er : String → Store → Prop} {c : Cell} {r : Store} {n : Nat} {Y : Fld}
/-- the sum of the first powers -/
def tot (n : Nat) (a : Nat → Nat → Y.T) (g : List Y.T) (t : Nat) (i j : Nat) : Y.T := sumN t fun s => cf g s * mp n a s i j
theorem tot_g (hY : IsFld Y) {a : Nat → Nat → Y.T} {g : List Y.T} (hn : n ≤ 4) (ha : ∀ i j, Y.Bd 6 600 (a i j)) (hg : ∀ s, Y.Bd 6 600 (cf g s)) {t : Nat} (ht : t ≤ 10) (i j : Nat) : G Y 2000 (tot n a g t i j) := by
  refine G.sumN hY (e := 400) (n := t) ⟨6 ^ 11, 600 * (2401 ^ 10 * 6 ^ 10), by decide, by decide +kernel, by decide +kernel, fun s hs => ?_⟩ (by omega) (by decide) t (Nat.le_refl _)
  have b := fbd_mul hY (hg s) (mp_bd (X := fDom Y) (n := n) (l := 1) (.fld hY) ha s i j)
  have b2 := fbd_scale (M := 6 ^ (10 - s)) hY (Nat.pow_pos (by decide)) b
  rw [show 6 * 6 ^ s * 6 ^ (10 - s) = 6 ^ 11 by rw [Nat.mul_assoc, ← Nat.pow_add, show s + (10 - s) = 10 by omega]] at b2
  refine fbd_mono hY ?_ b2
  have h1 : (n * 600 + 1) ^ s ≤ 2401 ^ 10 := Nat.le_trans (Nat.pow_le_pow_left (show n * 600 + 1 ≤ 2401 by omega) s) (Nat.pow_le_pow_right (by decide) (by omega))
  have h2 : 6 ^ (10 - s) ≤ 6 ^ 10 := Nat.pow_le_pow_right (by decide) (by omega)
  rw [Nat.mul_assoc]
  exact Nat.mul_le_mul_left _ (Nat.mul_le_mul h1 h2)
theorem mp_g (hY : IsFld Y) {a : Nat → Nat → Y.T} (hn : n ≤ 4) (ha : ∀ i j, Y.Bd 6 600 (a i j)) {t : Nat} (ht : t ≤ 10) (i j : Nat) : G Y 900 (mp n a t i j) := by
  have h1 : (n * 600 + 1) ^ t ≤ 2401 ^ 10 := Nat.le_trans (Nat.pow_le_pow_left (show n * 600 + 1 ≤ 2401 by omega) t) (Nat.pow_le_pow_right (by decide) (by omega))
  have h2 : 6 ^ t ≤ 6 ^ 10 := Nat.pow_le_pow_right (by decide) (by omega)
  have h3 : 2401 ^ 10 < 2 ^ 900 := by decide +kernel
  have h4 : 6 ^ 10 < 2 ^ 900 := by decide +kernel
  exact ⟨_, _, mp_bd (X := fDom Y) (n := n) (l := 1) (.fld hY) ha t i j, by omega, by omega⟩
theorem k23_b (h : HasK23b P) {ns : List Int} (hl : ns.length ≤ 63) :
    wp (callF P sub (k + 20) "_law_part_b" [.fro (ns.map .int)] []) (fun d st' => d = .bl true) NE := by
  have hlw := h.lw
  refine wcall h.part_b rfl ?_
  dsimp only [Fn.f__law_part_b_ec9db8]
  rw [wc]; bv_omega
  refine wp_imp (start_ok h.lw.start hl) ?_
  rintro d s ⟨c0, rfl, hT, rfl⟩
  bv_omega
  rw [wc]; bv_omega
  refine wfield hlw hT (by decide) fun f c1 hf hT => ?_
  obtain ⟨Y, hY, ef⟩ := fld_of hf
  rw [← ef]
  bv_omega
  rw [wc]; bv_omega
  refine wtake hlw.toHasTank hT (by decide) (by omega) (by omega) fun v c1 h0 h1 hT => ?_
  obtain ⟨n, rfl⟩ := Int.eq_ofNat_of_zero_le h0
  have hn : n ≤ 4 := by omega
  bv_omega
  rw [wc]; bv_omega
  refine wmatrix (X := fDom Y) h.lmatrix h.small h.lw (.fld hY) hT (by decide) (by omega) (by omega) fun (a : Nat → Nat → Y.T) c1 ha hT => ?_
  bv_omega
  rw [wc]; bv_omega
  refine wtake hlw.toHasTank hT (by decide) (by omega) (by omega) fun v c1 h0 h1 hT => ?_
  obtain ⟨q, rfl⟩ := Int.eq_ofNat_of_zero_le h0
  bv_omega
  refine ⟨rng_fine (by omega) (by omega) (by omega) (by omega), ?_⟩
  refine wcompN (fun i acc s => ∃ (l : List Y.T) (c' : Cell), acc = l.map Y.enc ∧ (∀ x ∈ l, Y.Bd 6 600 x) ∧ Tank c' (4000 + 5 * i) ∧ s = [c']) (Nat.le_trans (show q ≤ 5 by omega) (by decide)) (fun i acc s hi hl hI => ?_) (fun acc s hl hI => ?_) _ ⟨[], c1, rfl, by simp, hT.mono (by omega), rfl⟩
  · obtain ⟨l, c', rfl, hb, hT', rfl⟩ := hI
    bv_omega
    refine wsmall (X := fDom Y) h.small h.lw (.fld hY) hT' (by omega) fun (x : Y.T) c'' hx hT'' => ?_
    bv_omega
    refine ⟨_, rfl, (l ++ [x] : List Y.T), c'', by rw [List.map_append]; rfl, fun y hy => ?_, hT''.mono (by omega), rfl⟩
    rcases List.mem_append.mp hy with hy | hy
    · exact hb y hy
    · rw [List.mem_singleton.mp hy]; exact hx
  obtain ⟨l, c1, rfl, hb, hT, rfl⟩ := hI
  rw [List.length_map] at hl
  bv_omega
  rw [lstrip_ok (k := k + 17) h.lw.strip h.lw.zero hY rd_scr']; bv_omega
  have hlen := trim_len l
  have hg : ∀ x ∈ trim l, Y.Bd 6 600 x := fun x hx => by
    obtain ⟨u, hu⟩ := List.mem_iff_getElem?.mp hx
    obtain ⟨hu1, hu2⟩ := List.getElem?_eq_some_iff.mp hu
    have e := trim_cf l u
    rw [cf_get hu1, cf_get (by omega), hu2] at e
    rw [e]; exact hb _ (List.getElem_mem _)
  generalize trim l = g at hlen hg
  have hgc : ∀ u, Y.Bd 6 600 (cf g u) := fun u => by
    by_cases e : u < g.length
    · rw [cf_get e]; exact hg _ (List.getElem_mem _)
    · unfold cf
      rw [List.getElem?_eq_none (by omega)]
      exact fbd_zero hY (by decide) _
  rw [wc]; bv_omega
  rw [show callF P sub (k + 19) "_law_identity" [Y.d, .int (n : Nat)] [c1] = .ok (mF Y n n (mp n a 0)) [c1] from lidentity_ok (X := fDom Y) (k := k + 15) hlw h.lidentity (.fld hY) (by omega)]; bv_omega
  rw [wc]; bv_omega
  rw [show callF P sub (k + 19) "_law_zero" [Y.d] [c1] = .ok (Y.enc 0) [c1] from lzero_ok (k := k + 18) hlw.zero (X := fDom Y) (.fld hY)]; bv_omega
  rw [b_repT, if_pos (chk_iff.mpr ⟨by omega, by omega, by simp⟩), rep1]; bv_omega
  rw [b_repT, if_pos (chk_iff.mpr ⟨by omega, by omega, by simp⟩), rep1]; bv_omega
  have er : (List.replicate n (D.tup (List.replicate n (Y.enc 0)))) = tb n fun i => D.tup (tb n fun j => Y.enc (tot n a g 0 i j)) := tb_ext (by simp) fun i hi => by
    rw [List.getElem?_replicate, if_pos hi]
    rw [show List.replicate n (Y.enc 0) = tb n fun j => Y.enc (tot n a g 0 i j) from tb_ext (by simp) fun j hj => by rw [List.getElem?_replicate, if_pos hj]; rfl]
  rw [er]
  rw [wc]; bv_omega
  rw [show g.map Y.enc = tb g.length fun t => Y.enc (cf g t) from list_tb (X := fDom Y) rfl]
  have ha' : ∀ i j, Y.Bd 6 600 (a i j) := ha
  unfold mF encM encR
  refine wforN (fun t env s => ∃ (z9 z10 z11 z12 z13 : Option D) (G0 : Store), env = [some (D.fro (List.map D.int ns)), some (D.ref 0), some Y.d, some (D.int (n : Nat)), some (.tup [.int (n : Nat), .int (n : Nat), .tup (tb n fun i => .tup (tb n fun j => Y.enc (a i j)))]), some (.tup (tb g.length fun t => Y.enc (cf g t))), none, some (.tup [.int (n : Nat), .int (n : Nat), .tup (tb n fun i => .tup (tb n fun j => Y.enc (mp n a t i j)))]), some (.tup [.int (n : Nat), .int (n : Nat), .tup (tb n fun i => .tup (tb n fun j => Y.enc (tot n a g t i j)))]), z9, z10, z11, z12, z13, none] ∧ s = c1 :: G0) (fun i env s hI => rfl) (fun t env s ht hI => ?_) (fun env s hI => ?_) _ _ ⟨none, none, none, none, none, [], rfl, rfl⟩
  · obtain ⟨z9, z10, z11, z12, z13, G0, rfl, hs'⟩ := hI
    bv_omega
    rw [wc]; bv_omega
    rw [wc]; bv_omega
    refine ⟨rng_fine (by omega) (by omega) (by omega) (by omega), ?_⟩
    refine wforN (fun i env s2 => (∃ (z11 z12 z13 : Option D), env = [some (D.fro (List.map D.int ns)), some (D.ref 0), some Y.d, some (D.int (n : Nat)), some (.tup [.int (n : Nat), .int (n : Nat), .tup (tb n fun i => .tup (tb n fun j => Y.enc (a i j)))]), some (.tup (tb g.length fun t => Y.enc (cf g t))), none, some (.tup [.int (n : Nat), .int (n : Nat), .tup (tb n fun i => .tup (tb n fun j => Y.enc (mp n a t i j)))]), some (.tup [.int (n : Nat), .int (n : Nat), .tup (tb n fun i => .tup (tb n fun j => Y.enc (tot n a g t i j)))]), some (Y.enc (cf g t)), some (.ref s.length), z11, z12, z13, none]) ∧ s2 = s ++ [.lst (tb i fun i => .tup (tb n fun j => Y.enc (tot n a g (t + 1) i j)))]) (fun i env s hI => rfl) (fun i env s2 hi hI => ?_) (fun env s2 hI => ?_) _ _ ⟨⟨z11, z12, z13, rfl⟩, rfl⟩
    · obtain ⟨⟨z11, z12, z13, rfl⟩, rfl⟩ := hI
      bv_omega
      rw [wc]; bv_omega
      rw [tb_get hi]; bv_omega
      rw [wc]; bv_omega
      rw [tb_get hi]; bv_omega
      rw [wc]; bv_omega
      refine ⟨rng_fine (by omega) (by omega) (by omega) (by omega), ?_⟩
      refine wmapN (f := fun j => Y.enc (tot n a g (t + 1) i j)) rfl (size_ok (by omega)) (fun j hj => ?_) ?_
      · bv_omega
        rw [tb_get hj]; bv_omega
        rw [tb_get hj]; bv_omega
        have gc : G Y 900 (cf g t) := ⟨6, 600, hgc t, by decide, by decide⟩
        have gm := mp_g hY hn ha' (show t ≤ 10 by omega) i j
        rw [G.lmul (k := k + 16) hlw hY (gc.mono (by omega)) (gm.mono (by omega))]; bv_omega
        rw [G.ladd (k := k + 16) hlw hY (tot_g hY hn ha' hgc (show t ≤ 10 by omega) i j) (gc.mul hY gm (by decide))]; bv_omega
        rfl
      bv_omega
      refine ⟨Nat.lt_of_lt_of_le (show i < 100 by omega) (by decide), ⟨_, _, _, rfl⟩, ?_⟩
      rw [tb_succ]
    · obtain ⟨⟨z11, z12, z13, rfl⟩, rfl⟩ := hI
      bv_omega
      rw [wc]; bv_omega
      rw [wc]; bv_omega
      have p6 : 6 ^ t ≤ 6 ^ 10 := Nat.pow_le_pow_right (by decide) (by omega)
      have p2 : (n * 600 + 1) ^ t ≤ 2401 ^ 10 := Nat.le_trans (Nat.pow_le_pow_left (show n * 600 + 1 ≤ 2401 by omega) t) (Nat.pow_le_pow_right (by decide) (by omega))
      have c1' : 6 ^ 10 * 6 < 2 ^ 2000 := by decide +kernel
      have c2' : 4 * (2401 ^ 10 * 600) < 2 ^ 2000 := by decide +kernel
      have c3' : n * ((n * 600 + 1) ^ t * 600) ≤ 4 * (2401 ^ 10 * 600) := Nat.mul_le_mul hn (Nat.mul_le_mul_right _ p2)
      have pr : ∀ st, callF P sub (k + 19) "_law_product" [Y.d, mF Y n n (mp n a t), mF Y n n a] st = .ok (mF Y n n (mp n a (t + 1))) st := fun st =>
        lproduct_ok (X := fDom Y) (k := k + 13) (l := 1) (l' := 1) hlw h.ldot h.column h.product (.fld hY) (by omega) (by omega) (by omega) (fun i j => mp_bd (X := fDom Y) (n := n) (l := 1) (.fld hY) ha t i j) ha ⟨by decide, by omega, by omega⟩ ⟨by decide, by decide, by decide⟩ ⟨by decide, by omega, by omega⟩
      unfold mF at pr
      rw [pr]; bv_omega
      refine ⟨_, _, _, _, _, G0 ++ [.lst (tb n fun i => .tup (tb n fun j => Y.enc (tot n a g (t + 1) i j)))], rfl, ?_⟩
      rw [hs']; rfl
  · obtain ⟨z9, z10, z11, z12, z13, G0, rfl, hs'⟩ := hI
    bv_omega
    rw [wc]; bv_omega
    have ee := evaluated_ok (k := k + 10) (sub := sub) (st := s) h.evl hY hn ha' (show g.length ≤ 10 by omega) hg
    have et : tot n a g g.length = ev n a g := funext fun i => funext fun j => (ev_sum g i j).symm
    have sm : callF P sub (k + 19) "_law_same" [mF Y n n (ev n a g), mF Y n n (ev n a g)] s = .ok (.bl true) s := same_M (X := fDom Y) (k := k + 5) (l := 1) h.same (.fld hY) (by omega) (by omega) (by omega) (ev_bd hY hn ha' g hg)
    rw [show g.map Y.enc = tb g.length fun t => Y.enc (cf g t) from list_tb (X := fDom Y) rfl] at ee
    rw [et]
    unfold mF at ee sm
    rw [ee]; bv_omega
    rw [sm]; bv_omega
end
end Lp
-- pre3
namespace Lp
open Lg
local macro_rules
  | `(tactic| bv_omega) => `(tactic| try simp only [exec, evs, evo, evc, evIt, asg, asgs, evt, e_non, e_bl, e_int, e_str, e_var, e_bin, e_neg, e_not, e_cmp, e_and, e_or, e_ite, e_call, e_prim, e_isi, e_ix, e_slice, e_tup, e_lst, e_comp, e_lrange, e_meth, e_chain, e_chain3,
      wn, wp_bind, wp_one, fn_M, q_M, q_R, n_M, ty_M, ty_ML, l_M, e_con, mo_index, e_ladd, madd_ss, e_fnv, e_rev, rev_tup, rev_scr, fn_int, fn_bl, fn_non, fn_str, fn_tup, fn_scr, fn_fro, fn_ref, sz_0, sz_1, sz_2, sz_3, sz_4, sz_5, sz_6, sz_7, sz_8, sz_9, sz_10, sz_11, sz_12, e_isi2, e_lrep, m_rep, e_glob, tb_len, tb_rng, tb_rng2, tb_enum, rd_tup0, rd_tup1, rd_tup2, rd_si, dq_tup, dq_tups, dq_nil, dq_sn, dq_ns, dq_si, dq_is, dq_st, dq_ts, dq_nt, dq_tn, dq_it, dq_ti, dq_ni, dq_in, snoc_get, snoc_set, snoc_len, n_bl, ty_listi, ty_lists, ty_listn, ty_listb, ty_listt, ty_listc, ty_listf, ty_listr, ty_tupc, ty_strc, ty_intc, ty_intt, ty_ints, ty_intn, ty_bools, ty_booln, ty_boolt, ty_boolc, ty_strb, dq_bl, c_isb, c_isnb, n_scr, n_ref,  wp_lift, wp_noexc, wp_ok, wp_exc, wp_bad, bind_ok, lift_ok, wp_ite, conj_bad, b_add, b_addT, b_addL, b_sub, b_mul, b_rep, b_fdiv, b_mod, pw_9, pw_12, pw_15, pw_18, pw_19, pw_20, pw_43, pw_45, b_shl, i_add, i_sub, i_mul, i_fdiv, i_mod, c_eq, c_ne, c_lt, c_le, c_gt, c_ge, c_is, c_isNot, p_len, p_abs, p_min2, p_max2, p_int, p_intb, p_tuple, p_list, p_sum, p_any, p_all,
      q_tup, q_scr, q_fro, l_scr, l_fro, q_ref, l_ref, x_int, t_bl, t_int, t_non, t_tup, t_scr, ty_int, ty_intb, ty_bool, ty_booli, ty_tup, ty_tupi, ty_tupn, ty_tups, ty_str, sl_fro, sl_scr, sl_tup, nl_t, nl_f, k_tup, k_scr, k_fro, k_ref, wipe, s_ref, m_app, ix_40, ix_41, ix_42, ix_43, mo_ref, gd_t, mo_bits, m_bits, at_0, at_1, at_2, at_3, at_last, Option.bind_some, Option.map_some, lit_0, lit_1, lit_2, lit_3, lit_4, lit_5, lit_6, implies_true, Int.zero_add, Int.toNat_natCast, at_nat, List.getElem?_map, rd_int, rd_non, rd_bl, rd_str, dq_int, dq_non, dq_str, n_non, n_int, n_tup, n_str, ty_stri, ty_strn, ty_strt, ty_tupb, t_ref, start,
      List.getElem?_cons_zero, List.getElem?_cons_succ, List.set_cons_zero, List.set_cons_succ, List.map_cons, List.map_nil, List.length_cons, List.length_nil, List.replicate, List.cons_append, List.nil_append, Nat.reduceAdd, Nat.reduceSub, Int.reduceEq, Int.reduceToNat, Int.reduceBEq, Nat.reduceBEq, beq_self_eq_true, Int.reduceBNe, D.bl.injEq, Int.reduceLT, Int.reduceLE, Int.reduceAdd, Int.reduceSub, Int.reduceNeg, String.reduceEq, Nat.reduceEqDiff, gc_self, gc_cell, not_true, not_false_iff, or_self, or_true, true_or, or_false, false_or, and_false, false_and, and_self, eq_self, decide_true, decide_false,
      decide_eq_true_eq, decide_eq_false_iff_not, beq_iff_eq, beq_eq_false_iff_ne, Bool.not_eq_true', Bool.not_eq_false', Bool.not_eq_eq_eq_not, bne_iff_ne, Bool.or_false, Bool.or_true, Bool.false_or, Bool.true_or, Bool.and_false, Bool.and_true, Bool.false_and, Bool.true_and, not_false_eq_true, not_true_eq_false, Bool.not_true, Bool.not_false, true_and, and_true, ne_eq, forall_const, if_true, if_false, true_implies, false_implies, reduceCtorEq, Bool.false_eq_true, Bool.true_eq_false])
local macro_rules
  | `(tactic| simp_wf) => `(tactic| (rw [wc]; bv_omega))
open Lean.Grind Al
/-! ### values of any kind: which are elements? -/
end Lp
-- pre3
namespace Lp
open Lg
local macro_rules
  | `(tactic| bv_omega) => `(tactic| try simp only [exec, evs, evo, evc, evIt, asg, asgs, evt, e_non, e_bl, e_int, e_str, e_var, e_bin, e_neg, e_not, e_cmp, e_and, e_or, e_ite, e_call, e_prim, e_isi, e_ix, e_slice, e_tup, e_lst, e_comp, e_lrange, e_meth, e_chain, e_chain3,
      wn, wp_bind, wp_one, fn_M, q_M, q_R, n_M, ty_M, ty_ML, l_M, e_con, mo_index, e_ladd, madd_ss, e_fnv, e_rev, rev_tup, rev_scr, fn_int, fn_bl, fn_non, fn_str, fn_tup, fn_scr, fn_fro, fn_ref, sz_0, sz_1, sz_2, sz_3, sz_4, sz_5, sz_6, sz_7, sz_8, sz_9, sz_10, sz_11, sz_12, e_isi2, e_lrep, m_rep, e_glob, tb_len, tb_rng, tb_rng2, tb_enum, rd_tup0, rd_tup1, rd_tup2, rd_si, dq_tup, dq_tups, dq_nil, dq_sn, dq_ns, dq_si, dq_is, dq_st, dq_ts, dq_nt, dq_tn, dq_it, dq_ti, dq_ni, dq_in, snoc_get, snoc_set, snoc_len, n_bl, ty_listi, ty_lists, ty_listn, ty_listb, ty_listt, ty_listc, ty_listf, ty_listr, ty_tupc, ty_strc, ty_intc, ty_intt, ty_ints, ty_intn, ty_bools, ty_booln, ty_boolt, ty_boolc, ty_strb, dq_bl, c_isb, c_isnb, n_scr, n_ref,  wp_lift, wp_noexc, wp_ok, wp_exc, wp_bad, bind_ok, lift_ok, wp_ite, conj_bad, b_add, b_addT, b_addL, b_sub, b_mul, b_rep, b_fdiv, b_mod, pw_9, pw_12, pw_15, pw_18, pw_19, pw_20, pw_43, pw_45, b_shl, i_add, i_sub, i_mul, i_fdiv, i_mod, c_eq, c_ne, c_lt, c_le, c_gt, c_ge, c_is, c_isNot, p_len, p_abs, p_min2, p_max2, p_int, p_intb, p_tuple, p_list, p_sum, p_any, p_all,
      q_tup, q_scr, q_fro, l_scr, l_fro, q_ref, l_ref, x_int, t_bl, t_int, t_non, t_tup, t_scr, ty_int, ty_intb, ty_bool, ty_booli, ty_tup, ty_tupi, ty_tupn, ty_tups, ty_str, sl_fro, sl_scr, sl_tup, nl_t, nl_f, k_tup, k_scr, k_fro, k_ref, wipe, s_ref, m_app, ix_40, ix_41, ix_42, ix_43, mo_ref, gd_t, mo_bits, m_bits, at_0, at_1, at_2, at_3, at_last, Option.bind_some, Option.map_some, lit_0, lit_1, lit_2, lit_3, lit_4, lit_5, lit_6, implies_true, Int.zero_add, Int.toNat_natCast, at_nat, List.getElem?_map, rd_int, rd_non, rd_bl, rd_str, dq_int, dq_non, dq_str, n_non, n_int, n_tup, n_str, ty_stri, ty_strn, ty_strt, ty_tupb, t_ref, start,
      List.getElem?_cons_zero, List.getElem?_cons_succ, List.set_cons_zero, List.set_cons_succ, List.map_cons, List.map_nil, List.length_cons, List.length_nil, List.replicate, List.cons_append, List.nil_append, Nat.reduceAdd, Nat.reduceSub, Int.reduceEq, Int.reduceToNat, Int.reduceBEq, Nat.reduceBEq, beq_self_eq_true, Int.reduceBNe, D.bl.injEq, Int.reduceLT, Int.reduceLE, Int.reduceAdd, Int.reduceSub, Int.reduceNeg, String.reduceEq, Nat.reduceEqDiff, gc_self, gc_cell, not_true, not_false_iff, or_self, or_true, true_or, or_false, false_or, and_false, false_and, and_self, eq_self, decide_true, decide_false,
      decide_eq_true_eq, decide_eq_false_iff_not, beq_iff_eq, beq_eq_false_iff_ne, Bool.not_eq_true', Bool.not_eq_false', Bool.not_eq_eq_eq_not, bne_iff_ne, Bool.or_false, Bool.or_true, Bool.false_or, Bool.true_or, Bool.and_false, Bool.and_true, Bool.false_and, Bool.true_and, not_false_eq_true, not_true_eq_false, Bool.not_true, Bool.not_false, true_and, and_true, ne_eq, forall_const, if_true, if_false, true_implies, false_implies, reduceCtorEq, Bool.false_eq_true, Bool.true_eq_false])
local macro_rules
  | `(tactic| simp_wf) => `(tactic| (rw [wc]; bv_omega))
open Lean.Grind Al
end Lp
-- pre3
namespace Lp
open Lg
local macro_rules
  | `(tactic| bv_omega) => `(tactic| try simp only [exec, evs, evo, evc, evIt, asg, asgs, evt, e_non, e_bl, e_int, e_str, e_var, e_bin, e_neg, e_not, e_cmp, e_and, e_or, e_ite, e_call, e_prim, e_isi, e_ix, e_slice, e_tup, e_lst, e_comp, e_lrange, e_meth, e_chain, e_chain3,
      wn, wp_bind, wp_one, fn_M, q_M, q_R, n_M, ty_M, ty_ML, l_M, e_con, mo_index, e_ladd, madd_ss, e_fnv, e_rev, rev_tup, rev_scr, fn_int, fn_bl, fn_non, fn_str, fn_tup, fn_scr, fn_fro, fn_ref, sz_0, sz_1, sz_2, sz_3, sz_4, sz_5, sz_6, sz_7, sz_8, sz_9, sz_10, sz_11, sz_12, e_isi2, e_lrep, m_rep, e_glob, tb_len, tb_rng, tb_rng2, tb_enum, rd_tup0, rd_tup1, rd_tup2, rd_si, dq_tup, dq_tups, dq_nil, dq_sn, dq_ns, dq_si, dq_is, dq_st, dq_ts, dq_nt, dq_tn, dq_it, dq_ti, dq_ni, dq_in, snoc_get, snoc_set, snoc_len, n_bl, ty_listi, ty_lists, ty_listn, ty_listb, ty_listt, ty_listc, ty_listf, ty_listr, ty_tupc, ty_strc, ty_intc, ty_intt, ty_ints, ty_intn, ty_bools, ty_booln, ty_boolt, ty_boolc, ty_strb, dq_bl, c_isb, c_isnb, n_scr, n_ref,  wp_lift, wp_noexc, wp_ok, wp_exc, wp_bad, bind_ok, lift_ok, wp_ite, conj_bad, b_add, b_addT, b_addL, b_sub, b_mul, b_rep, b_fdiv, b_mod, pw_9, pw_12, pw_15, pw_18, pw_19, pw_20, pw_43, pw_45, b_shl, i_add, i_sub, i_mul, i_fdiv, i_mod, c_eq, c_ne, c_lt, c_le, c_gt, c_ge, c_is, c_isNot, p_len, p_abs, p_min2, p_max2, p_int, p_intb, p_tuple, p_list, p_sum, p_any, p_all,
      q_tup, q_scr, q_fro, l_scr, l_fro, q_ref, l_ref, x_int, t_bl, t_int, t_non, t_tup, t_scr, ty_int, ty_intb, ty_bool, ty_booli, ty_tup, ty_tupi, ty_tupn, ty_tups, ty_str, sl_fro, sl_scr, sl_tup, nl_t, nl_f, k_tup, k_scr, k_fro, k_ref, wipe, s_ref, m_app, ix_40, ix_41, ix_42, ix_43, mo_ref, gd_t, mo_bits, m_bits, at_0, at_1, at_2, at_3, at_last, Option.bind_some, Option.map_some, lit_0, lit_1, lit_2, lit_3, lit_4, lit_5, lit_6, implies_true, Int.zero_add, Int.toNat_natCast, at_nat, List.getElem?_map, rd_int, rd_non, rd_bl, rd_str, dq_int, dq_non, dq_str, n_non, n_int, n_tup, n_str, ty_stri, ty_strn, ty_strt, ty_tupb, t_ref, start,
      List.getElem?_cons_zero, List.getElem?_cons_succ, List.set_cons_zero, List.set_cons_succ, List.map_cons, List.map_nil, List.length_cons, List.length_nil, List.replicate, List.cons_append, List.nil_append, Nat.reduceAdd, Nat.reduceSub, Int.reduceEq, Int.reduceToNat, Int.reduceBEq, Nat.reduceBEq, beq_self_eq_true, Int.reduceBNe, D.bl.injEq, Int.reduceLT, Int.reduceLE, Int.reduceAdd, Int.reduceSub, Int.reduceNeg, String.reduceEq, Nat.reduceEqDiff, gc_self, gc_cell, not_true, not_false_iff, or_self, or_true, true_or, or_false, false_or, and_false, false_and, and_self, eq_self, decide_true, decide_false,
      decide_eq_true_eq, decide_eq_false_iff_not, beq_iff_eq, beq_eq_false_iff_ne, Bool.not_eq_true', Bool.not_eq_false', Bool.not_eq_eq_eq_not, bne_iff_ne, Bool.or_false, Bool.or_true, Bool.false_or, Bool.true_or, Bool.and_false, Bool.and_true, Bool.false_and, Bool.true_and, not_false_eq_true, not_true_eq_false, Bool.not_true, Bool.not_false, true_and, and_true, ne_eq, forall_const, if_true, if_false, true_implies, false_implies, reduceCtorEq, Bool.false_eq_true, Bool.true_eq_false])
local macro_rules
  | `(tactic| simp_wf) => `(tactic| (rw [wc]; bv_omega))
open Lean.Grind Al
end Lp
-- pre3
namespace Lp
open Lg
local macro_rules
  | `(tactic| bv_omega) => `(tactic| try simp only [exec, evs, evo, evc, evIt, asg, asgs, evt, e_non, e_bl, e_int, e_str, e_var, e_bin, e_neg, e_not, e_cmp, e_and, e_or, e_ite, e_call, e_prim, e_isi, e_ix, e_slice, e_tup, e_lst, e_comp, e_lrange, e_meth, e_chain, e_chain3,
      wn, wp_bind, wp_one, fn_M, q_M, q_R, n_M, ty_M, ty_ML, l_M, e_con, mo_index, e_ladd, madd_ss, e_fnv, e_rev, rev_tup, rev_scr, fn_int, fn_bl, fn_non, fn_str, fn_tup, fn_scr, fn_fro, fn_ref, sz_0, sz_1, sz_2, sz_3, sz_4, sz_5, sz_6, sz_7, sz_8, sz_9, sz_10, sz_11, sz_12, e_isi2, e_lrep, m_rep, e_glob, tb_len, tb_rng, tb_rng2, tb_enum, rd_tup0, rd_tup1, rd_tup2, rd_si, dq_tup, dq_tups, dq_nil, dq_sn, dq_ns, dq_si, dq_is, dq_st, dq_ts, dq_nt, dq_tn, dq_it, dq_ti, dq_ni, dq_in, snoc_get, snoc_set, snoc_len, n_bl, ty_listi, ty_lists, ty_listn, ty_listb, ty_listt, ty_listc, ty_listf, ty_listr, ty_tupc, ty_strc, ty_intc, ty_intt, ty_ints, ty_intn, ty_bools, ty_booln, ty_boolt, ty_boolc, ty_strb, dq_bl, c_isb, c_isnb, n_scr, n_ref,  wp_lift, wp_noexc, wp_ok, wp_exc, wp_bad, bind_ok, lift_ok, wp_ite, conj_bad, b_add, b_addT, b_addL, b_sub, b_mul, b_rep, b_fdiv, b_mod, pw_9, pw_12, pw_15, pw_18, pw_19, pw_20, pw_43, pw_45, b_shl, i_add, i_sub, i_mul, i_fdiv, i_mod, c_eq, c_ne, c_lt, c_le, c_gt, c_ge, c_is, c_isNot, p_len, p_abs, p_min2, p_max2, p_int, p_intb, p_tuple, p_list, p_sum, p_any, p_all,
      q_tup, q_scr, q_fro, l_scr, l_fro, q_ref, l_ref, x_int, t_bl, t_int, t_non, t_tup, t_scr, ty_int, ty_intb, ty_bool, ty_booli, ty_tup, ty_tupi, ty_tupn, ty_tups, ty_str, sl_fro, sl_scr, sl_tup, nl_t, nl_f, k_tup, k_scr, k_fro, k_ref, wipe, s_ref, m_app, ix_40, ix_41, ix_42, ix_43, mo_ref, gd_t, mo_bits, m_bits, at_0, at_1, at_2, at_3, at_last, Option.bind_some, Option.map_some, lit_0, lit_1, lit_2, lit_3, lit_4, lit_5, lit_6, implies_true, Int.zero_add, Int.toNat_natCast, at_nat, List.getElem?_map, rd_int, rd_non, rd_bl, rd_str, dq_int, dq_non, dq_str, n_non, n_int, n_tup, n_str, ty_stri, ty_strn, ty_strt, ty_tupb, t_ref, start,
      List.getElem?_cons_zero, List.getElem?_cons_succ, List.set_cons_zero, List.set_cons_succ, List.map_cons, List.map_nil, List.length_cons, List.length_nil, List.replicate, List.cons_append, List.nil_append, Nat.reduceAdd, Nat.reduceSub, Int.reduceEq, Int.reduceToNat, Int.reduceBEq, Nat.reduceBEq, beq_self_eq_true, Int.reduceBNe, D.bl.injEq, Int.reduceLT, Int.reduceLE, Int.reduceAdd, Int.reduceSub, Int.reduceNeg, String.reduceEq, Nat.reduceEqDiff, gc_self, gc_cell, not_true, not_false_iff, or_self, or_true, true_or, or_false, false_or, and_false, false_and, and_self, eq_self, decide_true, decide_false,
      decide_eq_true_eq, decide_eq_false_iff_not, beq_iff_eq, beq_eq_false_iff_ne, Bool.not_eq_true', Bool.not_eq_false', Bool.not_eq_eq_eq_not, bne_iff_ne, Bool.or_false, Bool.or_true, Bool.false_or, Bool.true_or, Bool.and_false, Bool.and_true, Bool.false_and, Bool.true_and, not_false_eq_true, not_true_eq_false, Bool.not_true, Bool.not_false, true_and, and_true, ne_eq, forall_const, if_true, if_false, true_implies, false_implies, reduceCtorEq, Bool.false_eq_true, Bool.true_eq_false])
local macro_rules
  | `(tactic| simp_wf) => `(tactic| (rw [wc]; bv_omega))
open Lean.Grind Al
/-! ### which values are domains? -/
end Lp
-- pre3
namespace Lp
open Lg
local macro_rules
  | `(tactic| bv_omega) => `(tactic| try simp only [exec, evs, evo, evc, evIt, asg, asgs, evt, e_non, e_bl, e_int, e_str, e_var, e_bin, e_neg, e_not, e_cmp, e_and, e_or, e_ite, e_call, e_prim, e_isi, e_ix, e_slice, e_tup, e_lst, e_comp, e_lrange, e_meth, e_chain, e_chain3,
      wn, wp_bind, wp_one, fn_M, q_M, q_R, n_M, ty_M, ty_ML, l_M, e_con, mo_index, e_ladd, madd_ss, e_fnv, e_rev, rev_tup, rev_scr, fn_int, fn_bl, fn_non, fn_str, fn_tup, fn_scr, fn_fro, fn_ref, sz_0, sz_1, sz_2, sz_3, sz_4, sz_5, sz_6, sz_7, sz_8, sz_9, sz_10, sz_11, sz_12, e_isi2, e_lrep, m_rep, e_glob, tb_len, tb_rng, tb_rng2, tb_enum, rd_tup0, rd_tup1, rd_tup2, rd_si, dq_tup, dq_tups, dq_nil, dq_sn, dq_ns, dq_si, dq_is, dq_st, dq_ts, dq_nt, dq_tn, dq_it, dq_ti, dq_ni, dq_in, snoc_get, snoc_set, snoc_len, n_bl, ty_listi, ty_lists, ty_listn, ty_listb, ty_listt, ty_listc, ty_listf, ty_listr, ty_tupc, ty_strc, ty_intc, ty_intt, ty_ints, ty_intn, ty_bools, ty_booln, ty_boolt, ty_boolc, ty_strb, dq_bl, c_isb, c_isnb, n_scr, n_ref,  wp_lift, wp_noexc, wp_ok, wp_exc, wp_bad, bind_ok, lift_ok, wp_ite, conj_bad, b_add, b_addT, b_addL, b_sub, b_mul, b_rep, b_fdiv, b_mod, pw_9, pw_12, pw_15, pw_18, pw_19, pw_20, pw_43, pw_45, b_shl, i_add, i_sub, i_mul, i_fdiv, i_mod, c_eq, c_ne, c_lt, c_le, c_gt, c_ge, c_is, c_isNot, p_len, p_abs, p_min2, p_max2, p_int, p_intb, p_tuple, p_list, p_sum, p_any, p_all,
      q_tup, q_scr, q_fro, l_scr, l_fro, q_ref, l_ref, x_int, t_bl, t_int, t_non, t_tup, t_scr, ty_int, ty_intb, ty_bool, ty_booli, ty_tup, ty_tupi, ty_tupn, ty_tups, ty_str, sl_fro, sl_scr, sl_tup, nl_t, nl_f, k_tup, k_scr, k_fro, k_ref, wipe, s_ref, m_app, ix_40, ix_41, ix_42, ix_43, mo_ref, gd_t, mo_bits, m_bits, at_0, at_1, at_2, at_3, at_last, Option.bind_some, Option.map_some, lit_0, lit_1, lit_2, lit_3, lit_4, lit_5, lit_6, implies_true, Int.zero_add, Int.toNat_natCast, at_nat, List.getElem?_map, rd_int, rd_non, rd_bl, rd_str, dq_int, dq_non, dq_str, n_non, n_int, n_tup, n_str, ty_stri, ty_strn, ty_strt, ty_tupb, t_ref, start,
      List.getElem?_cons_zero, List.getElem?_cons_succ, List.set_cons_zero, List.set_cons_succ, List.map_cons, List.map_nil, List.length_cons, List.length_nil, List.replicate, List.cons_append, List.nil_append, Nat.reduceAdd, Nat.reduceSub, Int.reduceEq, Int.reduceToNat, Int.reduceBEq, Nat.reduceBEq, beq_self_eq_true, Int.reduceBNe, D.bl.injEq, Int.reduceLT, Int.reduceLE, Int.reduceAdd, Int.reduceSub, Int.reduceNeg, String.reduceEq, Nat.reduceEqDiff, gc_self, gc_cell, not_true, not_false_iff, or_self, or_true, true_or, or_false, false_or, and_false, false_and, and_self, eq_self, decide_true, decide_false,
      decide_eq_true_eq, decide_eq_false_iff_not, beq_iff_eq, beq_eq_false_iff_ne, Bool.not_eq_true', Bool.not_eq_false', Bool.not_eq_eq_eq_not, bne_iff_ne, Bool.or_false, Bool.or_true, Bool.false_or, Bool.true_or, Bool.and_false, Bool.and_true, Bool.false_and, Bool.true_and, not_false_eq_true, not_true_eq_false, Bool.not_true, Bool.not_false, true_and, and_true, ne_eq, forall_const, if_true, if_false, true_implies, false_implies, reduceCtorEq, Bool.false_eq_true, Bool.true_eq_false])
local macro_rules
  | `(tactic| simp_wf) => `(tactic| (rw [wc]; bv_omega))
open Lean.Grind Al
/-- a comprehension of one value for each item, or of an exception at the first item that has none -/
theorem wmapX {n : Nat} {e f : Nat → D} {ok : Nat → Prop} {ks : List (Nat × List D)} {turn : D → Store → Out (Option D)} {st : Store} {Q : List D → Store → Prop} {E : String → Store → Prop} {cc : String} (hs : stays st ks = true) (hl : n ≤ sizeLine)
    (ht : ∀ i, i < n → ok i → wp (turn (e i) st) (fun o s => o = some (f i) ∧ s = st) NE) (hx : ∀ i, i < n → ¬ ok i → wp (turn (e i) st) (fun _ _ => False) (fun c s => c = cc ∧ s = st))
    (q : (∀ i, i < n → ok i) → Q (tb n f) st) (x : (∃ i, i < n ∧ ¬ ok i) → E cc st) : wp (compL ks turn (tb n e) [] st) Q E := by
  have go : ∀ (r i : Nat), r + i = n → (∀ j, j < i → ok j) → wp (compL ks turn ((tb n e).drop i) (tb i f) st) Q E := by
    intro r
    induction r with
    | zero =>
      intro i hi hj
      have e0 : i = n := by omega
      subst e0
      rw [List.drop_of_length_le (by rw [tb_len]; exact Nat.le_refl _)]
      simp only [compL, hs, if_true]
      exact q hj
    | succ r ih =>
      intro i hi hj
      have hlt : i < n := by omega
      have hlt' : i < (tb n e).length := by rw [tb_len]; exact hlt
      have e1 : (tb n e)[i] = e i := by
        have := tb_get (e := e) hlt
        rw [List.getElem?_eq_getElem hlt'] at this
        exact Option.some.inj this
      rw [List.drop_eq_getElem_cons hlt', e1]
      by_cases ho : ok i
      · simp only [compL, hs, if_true, wp_bind]
        refine wp_mono (ht i hlt ho) (fun o s hq => ?_) fun _ _ z => z.elim
        obtain ⟨rfl, rfl⟩ := hq
        dsimp only
        rw [if_pos (by rw [tb_len]; omega), ← tb_succ]
        exact ih (i + 1) (by omega) fun j hj' => by
          by_cases z : j = i
          · subst z; exact ho
          · exact hj j (by omega)
      · simp only [compL, hs, if_true, wp_bind]
        refine wp_mono (hx i hlt ho) (fun _ _ z => z.elim) fun c s hq => ?_
        obtain ⟨rfl, rfl⟩ := hq
        exact x ⟨i, hlt, ho⟩
  exact go n 0 rfl fun j hj => by omega
theorem e_compx {C : Cx} {env : Env} {st : Store} {m : Bool} {own : List Nat} {elt : E} {tg : Tg} {it : It} {c : Eo} : Lg.ev C (.compx m own elt tg it c) env st = (evIt C it env st).bind fun w st1 =>
      (compL w.keep (fun x st2 => (noexc (asg C tg x (wipe env own) st2)).bind fun env3 st3 => (evc C c env3 st3).bind fun b st4 =>
        if b then (Lg.ev C elt env3 st4).bind fun y st5 => .ok (some y) st5 else .ok none st4) w.items [] st1).bind fun ys st2 => newList m ys st2 := rfl
structure HasK23 (P : Pg) : Prop where
  b : HasK23b P
  dom : HasDom P
  li : HasLi P
  fromi : P.fn "from_integer" = some Fn.f_from_integer
  trimmed : P.fn "trimmed" = some Fn.f_trimmed
  quotient : P.fn "quotient" = some Fn.f_quotient
  may : P.fn "may_change" = some Fn.f_may_change
  changed : P.fn "changed" = some Fn.f_changed
  change : P.fn "change" = some Fn.f_change_0f7aff
  lchanged : P.fn "_law_changed" = some Fn.f__law_changed
  told : P.fn "_law_told" = some Fn.f__law_told_2c9aa0
  lshape : P.fn "_law_shape" = some Fn.f__law_shape
  part_a : P.fn "_law_part_a" = some Fn.f__law_part_a_b12fc0
  law : P.fn "law" = some Fn.f_law
section
variable {P : Pg} {sub : String → String → Option Bool} {k : Nat} {st : Store} {Q : D → Store → Prop} {Er : String → Store → Prop} {c : Cell} {r : Store} {m n : Nat} {X : Dom}
/-- what the program's change of an element says: y or an exception -/
def ChP (P : Pg) (sub : String → String → Option Bool) (X : Dom) (e : D) (x : X.T) (y : Option D) : Prop := ∀ k st, callF P sub (k + 6) "changed" [X.d, e, X.enc x] st = match y with
  | some y => .ok y st
  | none => .exc "DomainError" st
theorem change_ok (h : HasK23 P) (hX : IsDom X) {e : D} (hm : m ≤ 10) (hn : n ≤ 10) {a : Nat → Nat → X.T} {y : Nat → Nat → Option D} (he : rd st 40 e = some e) (hd : callF P sub (k + 6) "is_domain" [X.d] st = .ok (.bl true) st)
    (hed : callF P sub (k + 6) "is_domain" [e] st = .ok (.bl true) st) (hmc : deq X.d e = false → callF P sub (k + 6) "may_change" [X.d, e] st = .ok (.bl true) st) (hc : ∀ i j, ChP P sub X e (a i j) (y i j)) :
    wp (callF P sub (k + 7) "change" [X.d, e, encM X m n a] st) (fun d s => s = st ∧ (∀ i j, i < m → j < n → (y i j).isSome = true) ∧ d = .tup [.int m, .int n, .tup (tb m fun i => .tup (tb n fun j => (y i j).getD .non))])
      (fun c s => c = "DomainError" ∧ s = st ∧ ∃ i j, i < m ∧ j < n ∧ y i j = none) := by
  refine wcall h.change rfl ?_
  dsimp only [Fn.f_change_0f7aff]
  rw [wc]; bv_omega
  rw [hd]; bv_omega
  rw [hed]; bv_omega
  rw [ddrd hX]; bv_omega
  rw [he]; bv_omega
  have turnOk : ∀ i j, (y i j).isSome = true → callF P sub (k + 6) "changed" [X.d, e, X.enc (a i j)] st = .ok ((y i j).getD .non) st := fun i j ho => by
    have := hc i j k st
    cases hy : y i j with
    | none => rw [hy] at ho; cases ho
    | some v => rw [hy] at this; exact this
  have turnNo : ∀ i j, ¬ (y i j).isSome = true → callF P sub (k + 6) "changed" [X.d, e, X.enc (a i j)] st = .exc "DomainError" st := fun i j ho => by
    have := hc i j k st
    cases hy : y i j with
    | none => rw [hy] at this; exact this
    | some v => rw [hy] at ho; exact absurd rfl ho
  have isNo : ∀ i j, ¬ (y i j).isSome = true → y i j = none := fun i j ho => by
    cases hy : y i j with
    | none => rfl
    | some v => rw [hy] at ho; exact absurd rfl ho
  have key : (deq X.d e = false ∨ deq X.d e = true) := by cases deq X.d e <;> simp
  rcases key with hq | hq
  · refine ⟨fun _ => ?_, fun z => absurd hq z⟩
    rw [hmc hq]; bv_omega
    rw [wc]; bv_omega
    unfold encM encR
    bv_omega
    simp only [e_compx]
    bv_omega
    refine wmapX (f := fun i => .tup (tb n fun j => (y i j).getD .non)) (ok := fun i => ∀ j, j < n → (y i j).isSome = true) (cc := "DomainError") rfl (size_ok (by omega)) (fun i hi ho => ?_) (fun i hi ho => ?_) (fun hq => ?_) (fun ⟨i, hi, hx⟩ => ?_)
    · bv_omega
      simp only [e_compx]
      bv_omega
      refine wmapX (f := fun j => (y i j).getD .non) (ok := fun j => (y i j).isSome = true) (cc := "DomainError") rfl (size_ok (by omega)) (fun j hj ho2 => ?_) (fun j hj ho2 => absurd (ho j hj) ho2) (fun hq => ?_) (fun ⟨j, hj, hx⟩ => absurd (ho j hj) hx)
      · bv_omega
        rw [turnOk i j ho2]; bv_omega
      · bv_omega
    · bv_omega
      simp only [e_compx]
      bv_omega
      refine wmapX (f := fun j => (y i j).getD .non) (ok := fun j => (y i j).isSome = true) (cc := "DomainError") rfl (size_ok (by omega)) (fun j hj ho2 => ?_) (fun j hj ho2 => ?_) (fun hq => absurd hq ho) (fun ⟨j, hj, hx⟩ => ?_)
      · bv_omega
        rw [turnOk i j ho2]; bv_omega
      · bv_omega
        rw [turnNo i j ho2]; bv_omega
      · bv_omega
    · bv_omega
      exact fun i j hi hj => hq i hi j hj
    · bv_omega
      have : ∃ j, j < n ∧ y i j = none := by
        refine Classical.byContradiction fun z => hx fun j hj => ?_
        cases hy : y i j with
        | none => exact absurd ⟨j, hj, hy⟩ z
        | some v => rfl
      obtain ⟨j, hj, hy⟩ := this
      exact ⟨i, j, hi, hj, hy⟩
  · refine ⟨fun z => (by rw [hq] at z; cases z), fun _ => ?_⟩
    refine ⟨fun z => (by rw [hq] at z; cases z), fun _ => ?_⟩
    rw [wc]; bv_omega
    unfold encM encR
    bv_omega
    simp only [e_compx]
    bv_omega
    refine wmapX (f := fun i => .tup (tb n fun j => (y i j).getD .non)) (ok := fun i => ∀ j, j < n → (y i j).isSome = true) (cc := "DomainError") rfl (size_ok (by omega)) (fun i hi ho => ?_) (fun i hi ho => ?_) (fun hq => ?_) (fun ⟨i, hi, hx⟩ => ?_)
    · bv_omega
      simp only [e_compx]
      bv_omega
      refine wmapX (f := fun j => (y i j).getD .non) (ok := fun j => (y i j).isSome = true) (cc := "DomainError") rfl (size_ok (by omega)) (fun j hj ho2 => ?_) (fun j hj ho2 => absurd (ho j hj) ho2) (fun hq => ?_) (fun ⟨j, hj, hx⟩ => absurd (ho j hj) hx)
      · bv_omega
        rw [turnOk i j ho2]; bv_omega
      · bv_omega
    · bv_omega
      simp only [e_compx]
      bv_omega
      refine wmapX (f := fun j => (y i j).getD .non) (ok := fun j => (y i j).isSome = true) (cc := "DomainError") rfl (size_ok (by omega)) (fun j hj ho2 => ?_) (fun j hj ho2 => ?_) (fun hq => absurd hq ho) (fun ⟨j, hj, hx⟩ => ?_)
      · bv_omega
        rw [turnOk i j ho2]; bv_omega
      · bv_omega
        rw [turnNo i j ho2]; bv_omega
      · bv_omega
    · bv_omega
      exact fun i j hi hj => hq i hi j hj
    · bv_omega
      have : ∃ j, j < n ∧ y i j = none := by
        refine Classical.byContradiction fun z => hx fun j hj => ?_
        cases hy : y i j with
        | none => exact absurd ⟨j, hj, hy⟩ z
        | some v => rfl
      obtain ⟨j, hj, hy⟩ := this
      exact ⟨i, j, hi, hj, hy⟩
/-- what the law makes of an element -/
def ChL (P : Pg) (sub : String → String → Option Bool) (X : Dom) (e : D) (x : X.T) (y : Option D) : Prop := ∀ k st, callF P sub (k + 7) "_law_changed" [X.d, e, X.enc x] st = .ok (y.getD .non) st
/-- what the law tells: the matrix, or none -/
theorem told_ok (h : HasK23 P) (hsub : sub "DomainError" "DomainError" = some true) (hX : IsDom X) {e : D} (hm : m ≤ 10) (hn : n ≤ 10) {a : Nat → Nat → X.T} {y : Nat → Nat → Option D} (he : rd st 40 e = some e) (hd : callF P sub (k + 6) "is_domain" [X.d] st = .ok (.bl true) st)
    (hed : callF P sub (k + 6) "is_domain" [e] st = .ok (.bl true) st) (hmc : deq X.d e = false → callF P sub (k + 6) "may_change" [X.d, e] st = .ok (.bl true) st) (hc : ∀ i j, ChP P sub X e (a i j) (y i j)) :
    wp (callF P sub (k + 8) "_law_told" [X.d, e, encM X m n a] st) (fun d s => s = st ∧ (((∀ i j, i < m → j < n → (y i j).isSome = true) ∧ d = .tup [.int m, .int n, .tup (tb m fun i => .tup (tb n fun j => (y i j).getD .non))]) ∨
      ((∃ i j, i < m ∧ j < n ∧ y i j = none) ∧ d = .non))) NE := by
  refine wcall h.told rfl ?_
  dsimp only [Fn.f__law_told_2c9aa0]
  rw [wc]; bv_omega
  rw [wc]; bv_omega
  refine wp_mono (change_ok (k := k) h hX hm hn he hd hed hmc hc) ?_ ?_
  · rintro d s ⟨rfl, h1, rfl⟩
    bv_omega
    rw [wc]; bv_omega
    exact h1
  · rintro c s ⟨rfl, rfl, h1⟩
    bv_omega
    rw [hsub]; bv_omega
    rw [wc]; bv_omega
    simp only [noxc]; bv_omega
    exact h1
/-- no change from here to there -/
theorem told_bad (h : HasK23 P) (hsub : sub "DomainError" "DomainError" = some true) {d e a : D} (hd : rd st 40 d = some d) (he : rd st 40 e = some e) (hdd : callF P sub (k + 6) "is_domain" [d] st = .ok (.bl true) st)
    (hed : callF P sub (k + 6) "is_domain" [e] st = .ok (.bl true) st) (hq : deq d e = false) (hmc : callF P sub (k + 6) "may_change" [d, e] st = .ok (.bl false) st) :
    callF P sub (k + 8) "_law_told" [d, e, a] st = .ok .non st := by
  apply of_wp
  refine wcall h.told rfl ?_
  dsimp only [Fn.f__law_told_2c9aa0]
  rw [wc]; bv_omega
  rw [wc]; bv_omega
  have e1 : callF P sub (k + 7) "change" [d, e, a] st = .exc "DomainError" st := by
    apply exc_wp
    refine wcall h.change rfl ?_
    dsimp only [Fn.f_change_0f7aff]
    rw [wc]; bv_omega
    rw [hdd]; bv_omega
    rw [hed]; bv_omega
    rw [hd]; bv_omega
    rw [he]; bv_omega
    refine ⟨fun _ => ?_, fun z => absurd hq z⟩
    rw [hmc]; bv_omega
    rw [wc]; bv_omega
  rw [e1]; bv_omega
  rw [hsub]; bv_omega
  rw [wc]; bv_omega
  simp only [noxc]; bv_omega
/-! the kinds of changes -/
theorem chp_same (h : HasK23 P) (hX : IsDom X) (x : X.T) : ChP P sub X X.d x (some (X.enc x)) := fun k st => by
  show _ = Out.ok _ _
  apply of_wp
  refine wcall h.changed rfl ?_
  dsimp only [Fn.f_changed]
  rw [wc]; bv_omega
  rw [ddrd hX]; bv_omega
  have e : deq X.d X.d = true := by
    cases hX with
    | Z => rfl
    | fld hY => cases hY with
      | Q => rfl
      | F p _ _ => simp [fDom, pFld, Fd.enc, deq, deqs]
    | P hY => cases hY with
      | Q => rfl
      | F p _ _ => simp [pDom, pFld, Fd.enc, deq, deqs]
  refine ⟨fun _ => ?_, fun z => absurd e z⟩
  rw [wc]; bv_omega
theorem chp_zf (h : HasK23 P) {Y : Fld} (hY : IsFld Y) (x : Int) : ChP P sub zDom Y.d x (some (Y.enc (ofI x))) := fun k st => by
  show callF P sub (k + 6) "changed" [Dm.Z.enc, Y.d, .int x] st = Out.ok _ _
  apply of_wp
  have hf := fromint_f (k := k + 4) (sub := sub) (st := st) h.b.evl.inv.ring h.fromi hY (z := x)
  refine wcall h.changed rfl ?_
  dsimp only [Fn.f_changed]
  cases hY with
  | Q =>
    have hi := is_field_ok (f := .Q) (k := k + 3) (sub := sub) (st := st) h.dom trivial
    simp only [qFld, Fd.enc, Dm.enc] at hf hi ⊢
    rw [wc]; bv_omega
    rw [wc]; bv_omega
    rw [hi]; bv_omega
    rw [wc]; bv_omega
    rw [hf]; bv_omega
  | F p hp hl =>
    have hi := is_field_ok (f := .F p) (k := k + 3) (sub := sub) (st := st) h.dom ⟨hp, hl⟩
    simp only [pFld, Fd.enc, Dm.enc] at hf hi ⊢
    rw [wc]; bv_omega
    rw [wc]; bv_omega
    rw [hi]; bv_omega
    rw [wc]; bv_omega
    rw [hf]; bv_omega
theorem chl_zf (h : HasK23 P) {Y : Fld} (hY : IsFld Y) (x : Int) : ChL P sub zDom Y.d x (some (Y.enc (ofI x))) := fun k st => by
  show callF P sub (k + 7) "_law_changed" [Dm.Z.enc, Y.d, .int x] st = Out.ok _ _
  apply of_wp
  have hf := lnumber_f (k := k + 5) (sub := sub) (st := st) h.b.lw hY (z := x)
  refine wcall h.lchanged rfl ?_
  dsimp only [Fn.f__law_changed]
  cases hY with
  | Q =>
    simp only [qFld, Fd.enc, Dm.enc, Option.getD_some] at hf ⊢
    rw [wc]; bv_omega
    rw [show cop .isin (.str "Q") (.scr [.str "Q", .str "F"]) st = .ok (.bl true) st from rfl]; bv_omega
    rw [wc]; bv_omega
    rw [hf]; bv_omega
  | F p hp hl =>
    simp only [pFld, Fd.enc, Dm.enc, Option.getD_some] at hf ⊢
    rw [wc]; bv_omega
    rw [show cop .isin (.str "F") (.scr [.str "Q", .str "F"]) st = .ok (.bl true) st from rfl]; bv_omega
    rw [wc]; bv_omega
    rw [hf]; bv_omega
theorem rdPQ : rd st 40 (.tup [.str "P", .tup [.str "Q"]]) = some (.tup [.str "P", .tup [.str "Q"]]) := rd_pl rfl
theorem rdPF {p : Int} : rd st 40 (.tup [.str "P", .tup [.str "F", .int p]]) = some (.tup [.str "P", .tup [.str "F", .int p]]) := rd_pl rfl
/-- from fractions to integers -/
noncomputable def cvZ (x : Rat) : Option D := if x.den = 1 then some (.int x.num) else none
theorem chp_qz (h : HasK23 P) (x : Rat) : ChP P sub (fDom qFld) Dm.Z.enc x (cvZ x) := fun k st => by
  show callF P sub (k + 6) "changed" [Fd.Q.enc, Dm.Z.enc, .tup [.int x.num, .int x.den]] st = _
  unfold cvZ
  by_cases hd : x.den = 1
  · simp only [if_pos hd]
    apply of_wp
    refine wcall h.changed rfl ?_
    dsimp only [Fn.f_changed]
    simp only [Fd.enc, Dm.enc, hd]
    rw [wc]; bv_omega
    rw [wc]; bv_omega
    rw [wc]; bv_omega
    try (rw [wc]; bv_omega)
    trace_state
  · simp only [if_neg hd]
    apply exc_wp
    refine wcall h.changed rfl ?_
    dsimp only [Fn.f_changed]
    simp only [Fd.enc, Dm.enc]
    rw [wc]; bv_omega
    rw [wc]; bv_omega
    rw [wc]; bv_omega
    refine ⟨fun z => absurd (by exact_mod_cast z) hd, fun _ => ?_⟩
    rw [wc]; bv_omega
    rw [wc]; bv_omega
    rw [rdPQ]; bv_omega
    rw [wc]; bv_omega
theorem chl_qz (h : HasK23 P) (x : Rat) : ChL P sub (fDom qFld) Dm.Z.enc x (cvZ x) := fun k st => by
  show callF P sub (k + 7) "_law_changed" [Fd.Q.enc, Dm.Z.enc, .tup [.int x.num, .int x.den]] st = _
  unfold cvZ
  apply of_wp
  refine wcall h.lchanged rfl ?_
  dsimp only [Fn.f__law_changed]
  simp only [Fd.enc, Dm.enc]
  rw [wc]; bv_omega
  by_cases hd : x.den = 1
  · simp only [if_pos hd, hd]
    rw [wc]; bv_omega
    rw [wc]; bv_omega
    rfl
  · simp only [if_neg hd, Option.getD_none]
    rw [wc]; bv_omega
    refine ⟨fun z => absurd (by exact_mod_cast z) hd, fun _ => ?_⟩
    rw [wc]; bv_omega
    rw [wc]; bv_omega
    rw [wc]; bv_omega
/-- from fractions to a prime field -/
noncomputable def cvF (p : Nat) [NeZero p] (x : Rat) : Option D := if (ofI (x.den : Int) : (pFld p).T) = 0 then none else some ((pFld p).enc (ofI x.num * finv (ofI (x.den : Int))))
theorem den0 {p : Nat} [NeZero p] {x : Rat} : (x.den : Int).fmod p = 0 ↔ (ofI (x.den : Int) : (pFld p).T) = 0 := by
  rw [ofI_F (p := p)]
  constructor
  · intro z
    have : (ofI (x.den : Int) : Fin p).val = 0 := by exact_mod_cast z
    exact Fin.ext this
  · intro z
    have : (ofI (x.den : Int) : Fin p) = 0 := z
    rw [this]; simp
theorem chp_qf (h : HasK23 P) {p : Nat} [NeZero p] (hp : IsPr p) (hl : p ≤ 65521) (x : Rat) : ChP P sub (fDom qFld) (pFld p).d x (cvF p x) := fun k st => by
  show callF P sub (k + 6) "changed" [Fd.Q.enc, (Fd.F p).enc, .tup [.int x.num, .int x.den]] st = _
  have hp1 := hp.1
  unfold cvF
  by_cases hd : (ofI (x.den : Int) : (pFld p).T) = 0
  · simp only [if_pos hd]
    apply exc_wp
    refine wcall h.changed rfl ?_
    dsimp only [Fn.f_changed]
    simp only [Fd.enc]
    rw [wc]; bv_omega
    rw [wc]; bv_omega
    rw [wc]; bv_omega
    rw [wc]; bv_omega
    refine ⟨by omega, fun z => absurd (den0.mpr hd) z, fun _ => ?_⟩
    rw [wc]; bv_omega
    rw [rdPQ]; bv_omega
    rw [wc]; bv_omega
  · simp only [if_neg hd]
    apply of_wp
    refine wcall h.changed rfl ?_
    dsimp only [Fn.f_changed]
    simp only [Fd.enc]
    rw [wc]; bv_omega
    rw [wc]; bv_omega
    rw [wc]; bv_omega
    rw [wc]; bv_omega
    refine ⟨by omega, fun _ => ?_, fun z => absurd (den0.mp (Classical.not_not.mp z)) hd⟩
    rw [wc]; bv_omega
    refine ⟨by omega, by omega, ?_⟩
    have e := quotient_ok (Y := pFld p) (sub := sub) (st := st) (k := k) (N := 1) (A := 1) (N' := 1) (A' := 1) h.b.evl.inv h.quotient (.F p hp hl) (x := ofI x.num) (y := ofI (x.den : Int)) hd (show 0 < 1 by decide) (show 0 < 1 by decide) ⟨by decide, by decide⟩ ⟨by decide, by decide⟩ (by decide)
    rw [show D.int (x.num.fmod p) = (pFld p).enc (ofI x.num) from congrArg D.int (ofI_F (p := p) x.num), show D.int ((x.den : Int).fmod p) = (pFld p).enc (ofI (x.den : Int)) from congrArg D.int (ofI_F (p := p) (x.den : Int))]
    rw [show callF P sub (k + 5) "quotient" [.tup [.str "F", .int p], (pFld p).enc (ofI x.num), (pFld p).enc (ofI (x.den : Int))] st = _ from e]; bv_omega
theorem chl_qf (h : HasK23 P) {p : Nat} [NeZero p] (hp : IsPr p) (hl : p ≤ 65521) (x : Rat) : ChL P sub (fDom qFld) (pFld p).d x (cvF p x) := fun k st => by
  show callF P sub (k + 7) "_law_changed" [Fd.Q.enc, (Fd.F p).enc, .tup [.int x.num, .int x.den]] st = _
  have hp1 := hp.1
  have g1 : ∀ y : (pFld p).T, G (pFld p) 2000 y := fun y => ⟨1, 1, show 0 < 1 by decide, by decide, by decide⟩
  unfold cvF
  apply of_wp
  refine wcall h.lchanged rfl ?_
  dsimp only [Fn.f__law_changed]
  simp only [Fd.enc]
  rw [wc]; bv_omega
  rw [wc]; bv_omega
  rw [wc]; bv_omega
  by_cases hd : (ofI (x.den : Int) : (pFld p).T) = 0
  · simp only [if_pos hd, Option.getD_none]
    refine ⟨by omega, fun z => absurd (den0.mpr hd) z, fun _ => ?_⟩
    rw [wc]; bv_omega
    rw [wc]; bv_omega
  · simp only [if_neg hd, Option.getD_some]
    refine ⟨by omega, fun _ => ?_, fun z => absurd (den0.mp (Classical.not_not.mp z)) hd⟩
    rw [wc]; bv_omega
    have e1 := fun st z => lnumber_f (sub := sub) (st := st) (k := k + 5) h.b.lw (Y := pFld p) (.F p hp hl) (z := z)
    have e2 := fun st => linv_li (sub := sub) (st := st) (k := k) h.li (Y := pFld p) (.F p hp hl) hd (g1 _)
    have e3 := fun st => G.lmul (sub := sub) (st := st) (k := k + 3) h.b.lw (Y := pFld p) (.F p hp hl) (g1 (ofI x.num)) (g1 (finv (ofI (x.den : Int))))
    rw [show callF P sub (k + 6) "_law_number" [.tup [.str "F", .int p], .int x.num] st = _ from e1 st x.num]; bv_omega
    rw [show callF P sub (k + 6) "_law_number" [.tup [.str "F", .int p], .int (x.den : Int)] st = _ from e1 st x.den]; bv_omega
    rw [show callF P sub (k + 6) "_law_inverse" [.tup [.str "F", .int p], (pFld p).enc (ofI (x.den : Int))] st = _ from e2 st]; bv_omega
    rw [show callF P sub (k + 6) "_law_multiply" [.tup [.str "F", .int p], (pFld p).enc (ofI x.num), (pFld p).enc (finv (ofI (x.den : Int)))] st = _ from e3 st]; bv_omega
/-- from a field to polynomials -/
def cvP (Y : Fld) (x : Y.T) : Option D := some (.tup ((trim [x]).map Y.enc))
theorem chp_pp (h : HasK23 P) {Y : Fld} (hY : IsFld Y) (x : Y.T) : ChP P sub (fDom Y) (.tup [.str "P", Y.d]) x (cvP Y x) := fun k st => by
  show callF P sub (k + 6) "changed" [Y.d, .tup [.str "P", Y.d], Y.enc x] st = Out.ok _ _
  have e1 := fun st => trimmed_ok (sub := sub) (st := st) (k := k + 3) h.trimmed h.b.evl.inv.ring.zero hY (v := .scr [Y.enc x]) (l := [x]) rd_scr'
  apply of_wp
  refine wcall h.changed rfl ?_
  dsimp only [Fn.f_changed]
  cases hY with
  | Q =>
    simp only [qFld, Fd.enc] at e1 ⊢
    rw [wc]; bv_omega
    rw [rdPQ]; bv_omega
    rw [wc]; bv_omega
    rw [wc]; bv_omega
    rw [wc]; bv_omega
    rw [wc]; bv_omega
    rw [rdPQ]; bv_omega
    rw [wc]; bv_omega
    rw [e1]; bv_omega
  | F p hp hl =>
    simp only [pFld, Fd.enc] at e1 ⊢
    rw [wc]; bv_omega
    rw [rdPF]; bv_omega
    rw [wc]; bv_omega
    rw [wc]; bv_omega
    rw [wc]; bv_omega
    rw [wc]; bv_omega
    rw [rdPF]; bv_omega
    rw [wc]; bv_omega
    rw [e1]; bv_omega
theorem chl_pp (h : HasK23 P) {Y : Fld} (hY : IsFld Y) (x : Y.T) : ChL P sub (fDom Y) (.tup [.str "P", Y.d]) x (cvP Y x) := fun k st => by
  show callF P sub (k + 7) "_law_changed" [Y.d, .tup [.str "P", Y.d], Y.enc x] st = Out.ok _ _
  have e1 := fun st => lstrip_ok (sub := sub) (st := st) (k := k + 4) h.b.lw.strip h.b.lw.zero hY (v := .scr [Y.enc x]) (l := [x]) rd_scr'
  apply of_wp
  refine wcall h.lchanged rfl ?_
  dsimp only [Fn.f__law_changed]
  simp only [cvP, Option.getD_some]
  cases hY with
  | Q =>
    simp only [qFld, Fd.enc] at e1 ⊢
    rw [wc]; bv_omega
    rw [wc]; bv_omega
    rw [wc]; bv_omega
    rw [wc]; bv_omega
    rw [wc]; bv_omega
    rw [e1]; bv_omega
  | F p hp hl =>
    simp only [pFld, Fd.enc] at e1 ⊢
    rw [wc]; bv_omega
    rw [wc]; bv_omega
    rw [wc]; bv_omega
    rw [wc]; bv_omega
    rw [wc]; bv_omega
    rw [e1]; bv_omega
end
end Lp
-- pre3
namespace Lp
open Lg
local macro_rules
  | `(tactic| bv_omega) => `(tactic| try simp only [exec, evs, evo, evc, evIt, asg, asgs, evt, e_non, e_bl, e_int, e_str, e_var, e_bin, e_neg, e_not, e_cmp, e_and, e_or, e_ite, e_call, e_prim, e_isi, e_ix, e_slice, e_tup, e_lst, e_comp, e_lrange, e_meth, e_chain, e_chain3,
      wn, wp_bind, wp_one, fn_M, q_M, q_R, n_M, ty_M, ty_ML, l_M, e_con, mo_index, e_ladd, madd_ss, e_fnv, e_rev, rev_tup, rev_scr, fn_int, fn_bl, fn_non, fn_str, fn_tup, fn_scr, fn_fro, fn_ref, sz_0, sz_1, sz_2, sz_3, sz_4, sz_5, sz_6, sz_7, sz_8, sz_9, sz_10, sz_11, sz_12, e_isi2, e_lrep, m_rep, e_glob, tb_len, tb_rng, tb_rng2, tb_enum, rd_tup0, rd_tup1, rd_tup2, rd_si, dq_tup, dq_tups, dq_nil, dq_sn, dq_ns, dq_si, dq_is, dq_st, dq_ts, dq_nt, dq_tn, dq_it, dq_ti, dq_ni, dq_in, snoc_get, snoc_set, snoc_len, n_bl, ty_listi, ty_lists, ty_listn, ty_listb, ty_listt, ty_listc, ty_listf, ty_listr, ty_tupc, ty_strc, ty_intc, ty_intt, ty_ints, ty_intn, ty_bools, ty_booln, ty_boolt, ty_boolc, ty_strb, dq_bl, c_isb, c_isnb, n_scr, n_ref,  wp_lift, wp_noexc, wp_ok, wp_exc, wp_bad, bind_ok, lift_ok, wp_ite, conj_bad, b_add, b_addT, b_addL, b_sub, b_mul, b_rep, b_fdiv, b_mod, pw_9, pw_12, pw_15, pw_18, pw_19, pw_20, pw_43, pw_45, b_shl, i_add, i_sub, i_mul, i_fdiv, i_mod, c_eq, c_ne, c_lt, c_le, c_gt, c_ge, c_is, c_isNot, p_len, p_abs, p_min2, p_max2, p_int, p_intb, p_tuple, p_list, p_sum, p_any, p_all,
      q_tup, q_scr, q_fro, l_scr, l_fro, q_ref, l_ref, x_int, t_bl, t_int, t_non, t_tup, t_scr, ty_int, ty_intb, ty_bool, ty_booli, ty_tup, ty_tupi, ty_tupn, ty_tups, ty_str, sl_fro, sl_scr, sl_tup, nl_t, nl_f, k_tup, k_scr, k_fro, k_ref, wipe, s_ref, m_app, ix_40, ix_41, ix_42, ix_43, mo_ref, gd_t, mo_bits, m_bits, at_0, at_1, at_2, at_3, at_last, Option.bind_some, Option.map_some, lit_0, lit_1, lit_2, lit_3, lit_4, lit_5, lit_6, implies_true, Int.zero_add, Int.toNat_natCast, at_nat, List.getElem?_map, rd_int, rd_non, rd_bl, rd_str, dq_int, dq_non, dq_str, n_non, n_int, n_tup, n_str, ty_stri, ty_strn, ty_strt, ty_tupb, t_ref, start,
      List.getElem?_cons_zero, List.getElem?_cons_succ, List.set_cons_zero, List.set_cons_succ, List.map_cons, List.map_nil, List.length_cons, List.length_nil, List.replicate, List.cons_append, List.nil_append, Nat.reduceAdd, Nat.reduceSub, Int.reduceEq, Int.reduceToNat, Int.reduceBEq, Nat.reduceBEq, beq_self_eq_true, Int.reduceBNe, D.bl.injEq, Int.reduceLT, Int.reduceLE, Int.reduceAdd, Int.reduceSub, Int.reduceNeg, String.reduceEq, Nat.reduceEqDiff, gc_self, gc_cell, not_true, not_false_iff, or_self, or_true, true_or, or_false, false_or, and_false, false_and, and_self, eq_self, decide_true, decide_false,
      decide_eq_true_eq, decide_eq_false_iff_not, beq_iff_eq, beq_eq_false_iff_ne, Bool.not_eq_true', Bool.not_eq_false', Bool.not_eq_eq_eq_not, bne_iff_ne, Bool.or_false, Bool.or_true, Bool.false_or, Bool.true_or, Bool.and_false, Bool.and_true, Bool.false_and, Bool.true_and, not_false_eq_true, not_true_eq_false, Bool.not_true, Bool.not_false, true_and, and_true, ne_eq, forall_const, if_true, if_false, true_implies, false_implies, reduceCtorEq, Bool.false_eq_true, Bool.true_eq_false])
local macro_rules
  | `(tactic| simp_wf) => `(tactic| (rw [wc]; bv_omega))
open Lean.Grind Al
/-- may an element of f be one of g? -/
def mcB (f g : Dm) : Bool := (match f, g with
  | .Z, .fld _ => true
  | .fld .Q, .Z => true
  | .fld .Q, .fld (.F _) => true
  | _, _ => false) || deq g.enc (.tup [.str "P", f.enc])
section
variable {P : Pg} {sub : String → String → Option Bool} {k : Nat} {st : Store} {Q : D → Store → Prop} {Er : String → Store → Prop} {c : Cell} {r : Store} {m n : Nat} {X : Dom}
theorem rdPPQ : rd st 40 (.tup [.str "P", .tup [.str "P", .tup [.str "Q"]]]) = some (.tup [.str "P", .tup [.str "P", .tup [.str "Q"]]]) := rd_pl rfl
theorem rdPPF {p : Int} : rd st 40 (.tup [.str "P", .tup [.str "P", .tup [.str "F", .int p]]]) = some (.tup [.str "P", .tup [.str "P", .tup [.str "F", .int p]]]) := rd_pl rfl
theorem fld_noZ (h : HasK23 P) : callF P sub (k + 3) "is_field" [.tup [.str "Z"]] st = .ok (.bl false) st := by
  apply of_wp
  refine wcall h.dom.is_field rfl ?_
  dsimp only [Fn.f_is_field]
  rw [wc]; bv_omega
  rw [wc]; bv_omega
  rw [wc]; bv_omega
theorem fld_noP (h : HasK23 P) {f : Fd} : callF P sub (k + 3) "is_field" [.tup [.str "P", f.enc]] st = .ok (.bl false) st := by
  apply of_wp
  refine wcall h.dom.is_field rfl ?_
  dsimp only [Fn.f_is_field]
  rw [wc]; bv_omega
  rw [wc]; bv_omega
  rw [wc]; bv_omega
theorem fld_noPQ (h : HasK23 P) : callF P sub (k + 3) "is_field" [.tup [.str "P", .tup [.str "Q"]]] st = .ok (.bl false) st := fld_noP (f := .Q) h
theorem fld_noPF (h : HasK23 P) {p : Nat} : callF P sub (k + 3) "is_field" [.tup [.str "P", .tup [.str "F", .int p]]] st = .ok (.bl false) st := fld_noP (f := .F p) h
theorem mc_ok (h : HasK23 P) {f g : Dm} (hf : f.ok) (hg : g.ok) : callF P sub (k + 4) "may_change" [f.enc, g.enc] st = .ok (.bl (mcB f g)) st := by
  apply of_wp
  refine wcall h.may rfl ?_
  dsimp only [Fn.f_may_change]
  rcases f with _ | (_ | p) | (_ | p) <;> rcases g with _ | (_ | q) | (_ | q)
  · -- Z Z
    simp only [Dm.enc, Fd.enc]
    rw [wc]; bv_omega
    rw [wc]; bv_omega
    rw [fld_noZ h]; bv_omega
    all_goals first | rfl | simp [mcB, Dm.enc, Fd.enc, deq, deqs]
  · -- Z Q
    simp only [Dm.enc, Fd.enc]
    rw [wc]; bv_omega
    rw [wc]; bv_omega
    have hi := is_field_ok (f := .Q) (k := k + 1) (sub := sub) (st := st) h.dom trivial
    simp only [Fd.enc] at hi
    rw [hi]; bv_omega
    all_goals first | rfl | simp [mcB, Dm.enc, Fd.enc, deq, deqs]
  · -- Z F
    simp only [Dm.enc, Fd.enc]
    rw [wc]; bv_omega
    rw [wc]; bv_omega
    have hi := is_field_ok (f := .F q) (k := k + 1) (sub := sub) (st := st) h.dom hg
    simp only [Fd.enc] at hi
    rw [hi]; bv_omega
    all_goals first | rfl | simp [mcB, Dm.enc, Fd.enc, deq, deqs]
  · -- Z PQ
    simp only [Dm.enc, Fd.enc]
    rw [wc]; bv_omega
    rw [wc]; bv_omega
    rw [fld_noPQ h]; bv_omega
    all_goals first | rfl | simp [mcB, Dm.enc, Fd.enc, deq, deqs]
  · -- Z PF
    simp only [Dm.enc, Fd.enc]
    rw [wc]; bv_omega
    rw [wc]; bv_omega
    rw [fld_noPF h]; bv_omega
    all_goals first | rfl | simp [mcB, Dm.enc, Fd.enc, deq, deqs]
  · -- Q Z
    simp only [Dm.enc, Fd.enc]
    rw [wc]; bv_omega
    rw [wc]; bv_omega
    rw [show cop .isin (.str "Z") (.tup [.str "Z", .str "F"]) st = .ok (.bl true) st from rfl]; bv_omega
    all_goals first | rfl | simp [mcB, Dm.enc, Fd.enc, deq, deqs]
  · -- Q Q
    simp only [Dm.enc, Fd.enc]
    rw [wc]; bv_omega
    rw [wc]; bv_omega
    rw [show cop .isin (.str "Q") (.tup [.str "Z", .str "F"]) st = .ok (.bl false) st from rfl]; bv_omega
    try (rw [rdPQ]; bv_omega)
    all_goals first | rfl | simp [mcB, Dm.enc, Fd.enc, deq, deqs]
  · -- Q F
    simp only [Dm.enc, Fd.enc]
    rw [wc]; bv_omega
    rw [wc]; bv_omega
    rw [show cop .isin (.str "F") (.tup [.str "Z", .str "F"]) st = .ok (.bl true) st from rfl]; bv_omega
    all_goals first | rfl | simp [mcB, Dm.enc, Fd.enc, deq, deqs]
  · -- Q PQ
    simp only [Dm.enc, Fd.enc]
    rw [wc]; bv_omega
    rw [wc]; bv_omega
    rw [show cop .isin (.str "P") (.tup [.str "Z", .str "F"]) st = .ok (.bl false) st from rfl]; bv_omega
    rw [rdPQ]; bv_omega
    try (rw [rdPQ]; bv_omega)
    all_goals first | rfl | simp [mcB, Dm.enc, Fd.enc, deq, deqs]
  · -- Q PF
    simp only [Dm.enc, Fd.enc]
    rw [wc]; bv_omega
    rw [wc]; bv_omega
    rw [show cop .isin (.str "P") (.tup [.str "Z", .str "F"]) st = .ok (.bl false) st from rfl]; bv_omega
    rw [rdPF]; bv_omega
    try (rw [rdPQ]; bv_omega)
    all_goals first | rfl | simp [mcB, Dm.enc, Fd.enc, deq, deqs]
  · -- F Z
    simp only [Dm.enc, Fd.enc]
    rw [wc]; bv_omega
    rw [wc]; bv_omega
    try (rw [rdPF]; bv_omega)
    all_goals first | rfl | simp [mcB, Dm.enc, Fd.enc, deq, deqs]
  · -- F Q
    simp only [Dm.enc, Fd.enc]
    rw [wc]; bv_omega
    rw [wc]; bv_omega
    try (rw [rdPF]; bv_omega)
    all_goals first | rfl | simp [mcB, Dm.enc, Fd.enc, deq, deqs]
  · -- F F
    simp only [Dm.enc, Fd.enc]
    rw [wc]; bv_omega
    rw [wc]; bv_omega
    try (rw [rdPF]; bv_omega)
    all_goals first | rfl | simp [mcB, Dm.enc, Fd.enc, deq, deqs]
  · -- F PQ
    simp only [Dm.enc, Fd.enc]
    rw [wc]; bv_omega
    rw [wc]; bv_omega
    rw [rdPQ]; bv_omega
    try (rw [rdPF]; bv_omega)
    all_goals first | rfl | simp [mcB, Dm.enc, Fd.enc, deq, deqs]
  · -- F PF
    simp only [Dm.enc, Fd.enc]
    rw [wc]; bv_omega
    rw [wc]; bv_omega
    rw [rdPF]; bv_omega
    try (rw [rdPF]; bv_omega)
    all_goals first | rfl | simp [mcB, Dm.enc, Fd.enc, deq, deqs]
  · -- PQ Z
    simp only [Dm.enc, Fd.enc]
    rw [wc]; bv_omega
    rw [wc]; bv_omega
    try (rw [rdPPQ]; bv_omega)
    all_goals first | rfl | simp [mcB, Dm.enc, Fd.enc, deq, deqs]
  · -- PQ Q
    simp only [Dm.enc, Fd.enc]
    rw [wc]; bv_omega
    rw [wc]; bv_omega
    try (rw [rdPPQ]; bv_omega)
    all_goals first | rfl | simp [mcB, Dm.enc, Fd.enc, deq, deqs]
  · -- PQ F
    simp only [Dm.enc, Fd.enc]
    rw [wc]; bv_omega
    rw [wc]; bv_omega
    try (rw [rdPPQ]; bv_omega)
    all_goals first | rfl | simp [mcB, Dm.enc, Fd.enc, deq, deqs]
  · -- PQ PQ
    simp only [Dm.enc, Fd.enc]
    rw [wc]; bv_omega
    rw [wc]; bv_omega
    rw [rdPQ]; bv_omega
    try (rw [rdPPQ]; bv_omega)
    all_goals first | rfl | simp [mcB, Dm.enc, Fd.enc, deq, deqs]
  · -- PQ PF
    simp only [Dm.enc, Fd.enc]
    rw [wc]; bv_omega
    rw [wc]; bv_omega
    rw [rdPF]; bv_omega
    try (rw [rdPPQ]; bv_omega)
    all_goals first | rfl | simp [mcB, Dm.enc, Fd.enc, deq, deqs]
  · -- PF Z
    simp only [Dm.enc, Fd.enc]
    rw [wc]; bv_omega
    rw [wc]; bv_omega
    try (rw [rdPPF]; bv_omega)
    all_goals first | rfl | simp [mcB, Dm.enc, Fd.enc, deq, deqs]
  · -- PF Q
    simp only [Dm.enc, Fd.enc]
    rw [wc]; bv_omega
    rw [wc]; bv_omega
    try (rw [rdPPF]; bv_omega)
    all_goals first | rfl | simp [mcB, Dm.enc, Fd.enc, deq, deqs]
  · -- PF F
    simp only [Dm.enc, Fd.enc]
    rw [wc]; bv_omega
    rw [wc]; bv_omega
    try (rw [rdPPF]; bv_omega)
    all_goals first | rfl | simp [mcB, Dm.enc, Fd.enc, deq, deqs]
  · -- PF PQ
    simp only [Dm.enc, Fd.enc]
    rw [wc]; bv_omega
    rw [wc]; bv_omega
    rw [rdPQ]; bv_omega
    try (rw [rdPPF]; bv_omega)
    all_goals first | rfl | simp [mcB, Dm.enc, Fd.enc, deq, deqs]
  · -- PF PF
    simp only [Dm.enc, Fd.enc]
    rw [wc]; bv_omega
    rw [wc]; bv_omega
    rw [rdPF]; bv_omega
    try (rw [rdPPF]; bv_omega)
    all_goals first | rfl | simp [mcB, Dm.enc, Fd.enc, deq, deqs]
/-- the law's question whether a change fits -/
def fitsE : Lg.E := (.or (.and (.cmp .eq (.ix (.var 2) (.int 0)) (.str "Z")) (.cmp .isin (.ix (.var 3) (.int 0)) (.lst false (.cons (.str "Q") (.cons (.str "F") .nil))))) (.or (.and (.cmp .eq (.ix (.var 2) (.int 0)) (.str "Q")) (.cmp .isin (.ix (.var 3) (.int 0)) (.lst false (.cons (.str "Z") (.cons (.str "F") .nil))))) (.and (.cmp .eq (.ix (.var 3) (.int 0)) (.str "P")) (.cmp .eq (.ix (.var 3) (.int 1)) (.var 2)))))
theorem fits_ev {f g : Dm} {C : Cx} {env : Env} (h2 : env[2]? = some (some f.enc)) (h3 : env[3]? = some (some g.enc)) : Lg.ev C fitsE env st = .ok (.bl (mcB f g)) st := by
  apply of_wp
  unfold fitsE
  have v2 : Lg.ev C (.var 2) env st = .ok f.enc st := by simp only [Lg.ev, h2]
  have v3 : Lg.ev C (.var 3) env st = .ok g.enc st := by simp only [Lg.ev, h3]
  rcases f with _ | (_ | p) | (_ | p) <;> rcases g with _ | (_ | q) | (_ | q)
  · -- Z Z
    simp only [Dm.enc, Fd.enc] at h2 h3 v2 v3
    bv_omega
    simp only [h2, h3]; bv_omega
    try (rw [show cop .isin (.str "Z") (.scr [.str "Q", .str "F"]) st = .ok (.bl false) st from rfl]; bv_omega)
    all_goals first | done | rfl | simp [mcB, Dm.enc, Fd.enc, deq, deqs]
  · -- Z Q
    simp only [Dm.enc, Fd.enc] at h2 h3 v2 v3
    bv_omega
    simp only [h2, h3]; bv_omega
    try (rw [show cop .isin (.str "Q") (.scr [.str "Q", .str "F"]) st = .ok (.bl true) st from rfl]; bv_omega)
    all_goals first | done | rfl | simp [mcB, Dm.enc, Fd.enc, deq, deqs]
  · -- Z F
    simp only [Dm.enc, Fd.enc] at h2 h3 v2 v3
    bv_omega
    simp only [h2, h3]; bv_omega
    try (rw [show cop .isin (.str "F") (.scr [.str "Q", .str "F"]) st = .ok (.bl true) st from rfl]; bv_omega)
    all_goals first | done | rfl | simp [mcB, Dm.enc, Fd.enc, deq, deqs]
  · -- Z PQ
    simp only [Dm.enc, Fd.enc] at h2 h3 v2 v3
    bv_omega
    simp only [h2, h3]; bv_omega
    try (rw [show cop .isin (.str "P") (.scr [.str "Q", .str "F"]) st = .ok (.bl false) st from rfl]; bv_omega)
    all_goals first | done | rfl | simp [mcB, Dm.enc, Fd.enc, deq, deqs]
  · -- Z PF
    simp only [Dm.enc, Fd.enc] at h2 h3 v2 v3
    bv_omega
    simp only [h2, h3]; bv_omega
    try (rw [show cop .isin (.str "P") (.scr [.str "Q", .str "F"]) st = .ok (.bl false) st from rfl]; bv_omega)
    all_goals first | done | rfl | simp [mcB, Dm.enc, Fd.enc, deq, deqs]
  · -- Q Z
    simp only [Dm.enc, Fd.enc] at h2 h3 v2 v3
    bv_omega
    simp only [h2, h3]; bv_omega
    try (rw [show cop .isin (.str "Z") (.scr [.str "Z", .str "F"]) st = .ok (.bl true) st from rfl]; bv_omega)
    all_goals first | done | rfl | simp [mcB, Dm.enc, Fd.enc, deq, deqs]
  · -- Q Q
    simp only [Dm.enc, Fd.enc] at h2 h3 v2 v3
    bv_omega
    simp only [h2, h3]; bv_omega
    try (rw [show cop .isin (.str "Q") (.scr [.str "Z", .str "F"]) st = .ok (.bl false) st from rfl]; bv_omega)
    all_goals first | done | rfl | simp [mcB, Dm.enc, Fd.enc, deq, deqs]
  · -- Q F
    simp only [Dm.enc, Fd.enc] at h2 h3 v2 v3
    bv_omega
    simp only [h2, h3]; bv_omega
    try (rw [show cop .isin (.str "F") (.scr [.str "Z", .str "F"]) st = .ok (.bl true) st from rfl]; bv_omega)
    all_goals first | done | rfl | simp [mcB, Dm.enc, Fd.enc, deq, deqs]
  · -- Q PQ
    simp only [Dm.enc, Fd.enc] at h2 h3 v2 v3
    bv_omega
    simp only [h2, h3]; bv_omega
    try (rw [show cop .isin (.str "P") (.scr [.str "Z", .str "F"]) st = .ok (.bl false) st from rfl]; bv_omega)
    all_goals first | done | rfl | simp [mcB, Dm.enc, Fd.enc, deq, deqs]
  · -- Q PF
    simp only [Dm.enc, Fd.enc] at h2 h3 v2 v3
    bv_omega
    simp only [h2, h3]; bv_omega
    try (rw [show cop .isin (.str "P") (.scr [.str "Z", .str "F"]) st = .ok (.bl false) st from rfl]; bv_omega)
    all_goals first | done | rfl | simp [mcB, Dm.enc, Fd.enc, deq, deqs]
  · -- F Z
    simp only [Dm.enc, Fd.enc] at h2 h3 v2 v3
    bv_omega
    simp only [h2, h3]; bv_omega
    all_goals first | done | rfl | simp [mcB, Dm.enc, Fd.enc, deq, deqs]
  · -- F Q
    simp only [Dm.enc, Fd.enc] at h2 h3 v2 v3
    bv_omega
    simp only [h2, h3]; bv_omega
    all_goals first | done | rfl | simp [mcB, Dm.enc, Fd.enc, deq, deqs]
  · -- F F
    simp only [Dm.enc, Fd.enc] at h2 h3 v2 v3
    bv_omega
    simp only [h2, h3]; bv_omega
    all_goals first | done | rfl | simp [mcB, Dm.enc, Fd.enc, deq, deqs]
  · -- F PQ
    simp only [Dm.enc, Fd.enc] at h2 h3 v2 v3
    bv_omega
    simp only [h2, h3]; bv_omega
    all_goals first | done | rfl | simp [mcB, Dm.enc, Fd.enc, deq, deqs]
  · -- F PF
    simp only [Dm.enc, Fd.enc] at h2 h3 v2 v3
    bv_omega
    simp only [h2, h3]; bv_omega
    all_goals first | done | rfl | simp [mcB, Dm.enc, Fd.enc, deq, deqs]
  · -- PQ Z
    simp only [Dm.enc, Fd.enc] at h2 h3 v2 v3
    bv_omega
    simp only [h2, h3]; bv_omega
    all_goals first | done | rfl | simp [mcB, Dm.enc, Fd.enc, deq, deqs]
  · -- PQ Q
    simp only [Dm.enc, Fd.enc] at h2 h3 v2 v3
    bv_omega
    simp only [h2, h3]; bv_omega
    all_goals first | done | rfl | simp [mcB, Dm.enc, Fd.enc, deq, deqs]
  · -- PQ F
    simp only [Dm.enc, Fd.enc] at h2 h3 v2 v3
    bv_omega
    simp only [h2, h3]; bv_omega
    all_goals first | done | rfl | simp [mcB, Dm.enc, Fd.enc, deq, deqs]
  · -- PQ PQ
    simp only [Dm.enc, Fd.enc] at h2 h3 v2 v3
    bv_omega
    simp only [h2, h3]; bv_omega
    try (rw [rdPQ]; bv_omega)
    all_goals first | done | rfl | simp [mcB, Dm.enc, Fd.enc, deq, deqs]
  · -- PQ PF
    simp only [Dm.enc, Fd.enc] at h2 h3 v2 v3
    bv_omega
    simp only [h2, h3]; bv_omega
    try (rw [rdPQ]; bv_omega)
    all_goals first | done | rfl | simp [mcB, Dm.enc, Fd.enc, deq, deqs]
  · -- PF Z
    simp only [Dm.enc, Fd.enc] at h2 h3 v2 v3
    bv_omega
    simp only [h2, h3]; bv_omega
    all_goals first | done | rfl | simp [mcB, Dm.enc, Fd.enc, deq, deqs]
  · -- PF Q
    simp only [Dm.enc, Fd.enc] at h2 h3 v2 v3
    bv_omega
    simp only [h2, h3]; bv_omega
    all_goals first | done | rfl | simp [mcB, Dm.enc, Fd.enc, deq, deqs]
  · -- PF F
    simp only [Dm.enc, Fd.enc] at h2 h3 v2 v3
    bv_omega
    simp only [h2, h3]; bv_omega
    all_goals first | done | rfl | simp [mcB, Dm.enc, Fd.enc, deq, deqs]
  · -- PF PQ
    simp only [Dm.enc, Fd.enc] at h2 h3 v2 v3
    bv_omega
    simp only [h2, h3]; bv_omega
    try (rw [rdPF]; bv_omega)
    all_goals first | done | rfl | simp [mcB, Dm.enc, Fd.enc, deq, deqs]
  · -- PF PF
    simp only [Dm.enc, Fd.enc] at h2 h3 v2 v3
    bv_omega
    simp only [h2, h3]; bv_omega
    try (rw [rdPF]; bv_omega)
    all_goals first | done | rfl | simp [mcB, Dm.enc, Fd.enc, deq, deqs]
theorem cvN_pl {Y : Fld} (hY : IsFld Y) {x : Int} {y : D} (e : some (Y.enc (ofI x)) = some y) : pl 11 y = true ∧ deq y .non = false := by
  cases e
  exact ⟨pl_mono (by decide) (fenc_pl hY _), by cases hY <;> rfl⟩
theorem cvZ_pl {x : Rat} {y : D} (e : cvZ x = some y) : pl 11 y = true ∧ deq y .non = false := by
  unfold cvZ at e
  split at e
  · cases e; exact ⟨rfl, rfl⟩
  · cases e
theorem cvF_pl {p : Nat} [NeZero p] {x : Rat} {y : D} (e : cvF p x = some y) : pl 11 y = true ∧ deq y .non = false := by
  unfold cvF at e
  split at e
  · cases e
  · cases e; exact ⟨rfl, rfl⟩
theorem cvP_pl {Y : Fld} (hY : IsFld Y) {x : Y.T} {y : D} (e : cvP Y x = some y) : pl 11 y = true ∧ deq y .non = false := by
  unfold cvP at e
  cases e
  refine ⟨pl_row (n := 10) fun z hz => ?_, rfl⟩
  obtain ⟨w, _, rfl⟩ := List.mem_map.mp hz
  exact pl_mono (by decide) (fenc_pl hY w)
/-- two domains: the same, or a change that fits, or none -/
theorem kind (h : HasK23 P) {f g : Dm} (hf : f.ok) (hg : g.ok) : ∃ X : Dom, IsDom X ∧ X.d = f.enc ∧ (f = g ∨
    (deq f.enc g.enc = false ∧ mcB f g = true ∧ ∃ cv : X.T → Option D, (∀ x, ChP P sub X g.enc x (cv x)) ∧ (∀ x, ChL P sub X g.enc x (cv x)) ∧ ∀ x y, cv x = some y → pl 11 y = true ∧ deq y .non = false) ∨
    (deq f.enc g.enc = false ∧ mcB f g = false)) := by
  rcases f with _ | (_ | p) | (_ | p) <;> rcases g with _ | (_ | q) | (_ | q)
  · -- Z Z
    refine ⟨zDom, .Z, rfl, ?_⟩
    exact .inl rfl
  · -- Z Q
    refine ⟨zDom, .Z, rfl, ?_⟩
    exact .inr (.inl ⟨by simp [Dm.enc, Fd.enc, deq, deqs], by simp [mcB, Dm.enc, Fd.enc, deq, deqs], fun x => some (qFld.enc (ofI x)), fun x => chp_zf (Y := qFld) h .Q x, fun x => chl_zf (Y := qFld) h .Q x, fun x y e => cvN_pl (Y := qFld) .Q e⟩)
  · -- Z F
    haveI : NeZero q := ⟨fun e => by subst e; exact absurd hg.1.1 (by decide)⟩
    refine ⟨zDom, .Z, rfl, ?_⟩
    exact .inr (.inl ⟨by simp [Dm.enc, Fd.enc, deq, deqs], by simp [mcB, Dm.enc, Fd.enc, deq, deqs], fun x => some ((pFld q).enc (ofI x)), fun x => chp_zf (Y := pFld q) h (.F q hg.1 hg.2) x, fun x => chl_zf (Y := pFld q) h (.F q hg.1 hg.2) x, fun x y e => cvN_pl (Y := (pFld q)) (.F q hg.1 hg.2) e⟩)
  · -- Z PQ
    refine ⟨zDom, .Z, rfl, ?_⟩
    exact .inr (.inr ⟨by simp [Dm.enc, Fd.enc, deq, deqs], by simp [mcB, Dm.enc, Fd.enc, deq, deqs]⟩)
  · -- Z PF
    haveI : NeZero q := ⟨fun e => by subst e; exact absurd hg.1.1 (by decide)⟩
    refine ⟨zDom, .Z, rfl, ?_⟩
    exact .inr (.inr ⟨by simp [Dm.enc, Fd.enc, deq, deqs], by simp [mcB, Dm.enc, Fd.enc, deq, deqs]⟩)
  · -- Q Z
    refine ⟨fDom qFld, .fld .Q, rfl, ?_⟩
    exact .inr (.inl ⟨by simp [Dm.enc, Fd.enc, deq, deqs], by simp [mcB, Dm.enc, Fd.enc, deq, deqs], cvZ, fun x => chp_qz h x, fun x => chl_qz h x, fun x y e => cvZ_pl e⟩)
  · -- Q Q
    refine ⟨fDom qFld, .fld .Q, rfl, ?_⟩
    exact .inl rfl
  · -- Q F
    haveI : NeZero q := ⟨fun e => by subst e; exact absurd hg.1.1 (by decide)⟩
    refine ⟨fDom qFld, .fld .Q, rfl, ?_⟩
    exact .inr (.inl ⟨by simp [Dm.enc, Fd.enc, deq, deqs], by simp [mcB, Dm.enc, Fd.enc, deq, deqs], cvF q, fun x => chp_qf h hg.1 hg.2 x, fun x => chl_qf h hg.1 hg.2 x, fun x y e => cvF_pl e⟩)
  · -- Q PQ
    refine ⟨fDom qFld, .fld .Q, rfl, ?_⟩
    exact .inr (.inl ⟨by simp [Dm.enc, Fd.enc, deq, deqs], by simp [mcB, Dm.enc, Fd.enc, deq, deqs], cvP qFld, fun x => chp_pp (Y := qFld) h .Q x, fun x => chl_pp (Y := qFld) h .Q x, fun x y e => cvP_pl (Y := qFld) .Q e⟩)
  · -- Q PF
    haveI : NeZero q := ⟨fun e => by subst e; exact absurd hg.1.1 (by decide)⟩
    refine ⟨fDom qFld, .fld .Q, rfl, ?_⟩
    exact .inr (.inr ⟨by simp [Dm.enc, Fd.enc, deq, deqs], by simp [mcB, Dm.enc, Fd.enc, deq, deqs]⟩)
  · -- F Z
    haveI : NeZero p := ⟨fun e => by subst e; exact absurd hf.1.1 (by decide)⟩
    refine ⟨fDom (pFld p), .fld (.F p hf.1 hf.2), rfl, ?_⟩
    exact .inr (.inr ⟨by simp [Dm.enc, Fd.enc, deq, deqs], by simp [mcB, Dm.enc, Fd.enc, deq, deqs]⟩)
  · -- F Q
    haveI : NeZero p := ⟨fun e => by subst e; exact absurd hf.1.1 (by decide)⟩
    refine ⟨fDom (pFld p), .fld (.F p hf.1 hf.2), rfl, ?_⟩
    exact .inr (.inr ⟨by simp [Dm.enc, Fd.enc, deq, deqs], by simp [mcB, Dm.enc, Fd.enc, deq, deqs]⟩)
  · -- F F
    haveI : NeZero p := ⟨fun e => by subst e; exact absurd hf.1.1 (by decide)⟩
    haveI : NeZero q := ⟨fun e => by subst e; exact absurd hg.1.1 (by decide)⟩
    refine ⟨fDom (pFld p), .fld (.F p hf.1 hf.2), rfl, ?_⟩
    by_cases e : p = q
    · subst e; exact .inl rfl
    · exact .inr (.inr ⟨by simp [Dm.enc, Fd.enc, deq, deqs]; omega, by simp [mcB, Dm.enc, Fd.enc, deq, deqs]⟩)
  · -- F PQ
    haveI : NeZero p := ⟨fun e => by subst e; exact absurd hf.1.1 (by decide)⟩
    refine ⟨fDom (pFld p), .fld (.F p hf.1 hf.2), rfl, ?_⟩
    exact .inr (.inr ⟨by simp [Dm.enc, Fd.enc, deq, deqs], by simp [mcB, Dm.enc, Fd.enc, deq, deqs]⟩)
  · -- F PF
    haveI : NeZero p := ⟨fun e => by subst e; exact absurd hf.1.1 (by decide)⟩
    haveI : NeZero q := ⟨fun e => by subst e; exact absurd hg.1.1 (by decide)⟩
    refine ⟨fDom (pFld p), .fld (.F p hf.1 hf.2), rfl, ?_⟩
    by_cases e : p = q
    · subst e
      exact .inr (.inl ⟨by simp [Dm.enc, Fd.enc, deq, deqs], by simp [mcB, Dm.enc, Fd.enc, deq, deqs], cvP (pFld p), fun x => chp_pp (Y := pFld p) h (.F p hg.1 hg.2) x, fun x => chl_pp (Y := pFld p) h (.F p hg.1 hg.2) x, fun x y e => cvP_pl (Y := (pFld p)) (.F p hg.1 hg.2) e⟩)
    · exact .inr (.inr ⟨by simp [Dm.enc, Fd.enc, deq, deqs], by simp [mcB, Dm.enc, Fd.enc, deq, deqs]; omega⟩)
  · -- PQ Z
    refine ⟨pDom qFld, .P .Q, rfl, ?_⟩
    exact .inr (.inr ⟨by simp [Dm.enc, Fd.enc, deq, deqs], by simp [mcB, Dm.enc, Fd.enc, deq, deqs]⟩)
  · -- PQ Q
    refine ⟨pDom qFld, .P .Q, rfl, ?_⟩
    exact .inr (.inr ⟨by simp [Dm.enc, Fd.enc, deq, deqs], by simp [mcB, Dm.enc, Fd.enc, deq, deqs]⟩)
  · -- PQ F
    haveI : NeZero q := ⟨fun e => by subst e; exact absurd hg.1.1 (by decide)⟩
    refine ⟨pDom qFld, .P .Q, rfl, ?_⟩
    exact .inr (.inr ⟨by simp [Dm.enc, Fd.enc, deq, deqs], by simp [mcB, Dm.enc, Fd.enc, deq, deqs]⟩)
  · -- PQ PQ
    refine ⟨pDom qFld, .P .Q, rfl, ?_⟩
    exact .inl rfl
  · -- PQ PF
    haveI : NeZero q := ⟨fun e => by subst e; exact absurd hg.1.1 (by decide)⟩
    refine ⟨pDom qFld, .P .Q, rfl, ?_⟩
    exact .inr (.inr ⟨by simp [Dm.enc, Fd.enc, deq, deqs], by simp [mcB, Dm.enc, Fd.enc, deq, deqs]⟩)
  · -- PF Z
    haveI : NeZero p := ⟨fun e => by subst e; exact absurd hf.1.1 (by decide)⟩
    refine ⟨pDom (pFld p), .P (.F p hf.1 hf.2), rfl, ?_⟩
    exact .inr (.inr ⟨by simp [Dm.enc, Fd.enc, deq, deqs], by simp [mcB, Dm.enc, Fd.enc, deq, deqs]⟩)
  · -- PF Q
    haveI : NeZero p := ⟨fun e => by subst e; exact absurd hf.1.1 (by decide)⟩
    refine ⟨pDom (pFld p), .P (.F p hf.1 hf.2), rfl, ?_⟩
    exact .inr (.inr ⟨by simp [Dm.enc, Fd.enc, deq, deqs], by simp [mcB, Dm.enc, Fd.enc, deq, deqs]⟩)
  · -- PF F
    haveI : NeZero p := ⟨fun e => by subst e; exact absurd hf.1.1 (by decide)⟩
    haveI : NeZero q := ⟨fun e => by subst e; exact absurd hg.1.1 (by decide)⟩
    refine ⟨pDom (pFld p), .P (.F p hf.1 hf.2), rfl, ?_⟩
    exact .inr (.inr ⟨by simp [Dm.enc, Fd.enc, deq, deqs], by simp [mcB, Dm.enc, Fd.enc, deq, deqs]⟩)
  · -- PF PQ
    haveI : NeZero p := ⟨fun e => by subst e; exact absurd hf.1.1 (by decide)⟩
    refine ⟨pDom (pFld p), .P (.F p hf.1 hf.2), rfl, ?_⟩
    exact .inr (.inr ⟨by simp [Dm.enc, Fd.enc, deq, deqs], by simp [mcB, Dm.enc, Fd.enc, deq, deqs]⟩)
  · -- PF PF
    haveI : NeZero p := ⟨fun e => by subst e; exact absurd hf.1.1 (by decide)⟩
    haveI : NeZero q := ⟨fun e => by subst e; exact absurd hg.1.1 (by decide)⟩
    refine ⟨pDom (pFld p), .P (.F p hf.1 hf.2), rfl, ?_⟩
    by_cases e : p = q
    · subst e; exact .inl rfl
    · exact .inr (.inr ⟨by simp [Dm.enc, Fd.enc, deq, deqs]; omega, by simp [mcB, Dm.enc, Fd.enc, deq, deqs]⟩)
end
end Lp
-- pre3
namespace Lp
open Lg
local macro_rules
  | `(tactic| bv_omega) => `(tactic| try simp only [exec, evs, evo, evc, evIt, asg, asgs, evt, e_non, e_bl, e_int, e_str, e_var, e_bin, e_neg, e_not, e_cmp, e_and, e_or, e_ite, e_call, e_prim, e_isi, e_ix, e_slice, e_tup, e_lst, e_comp, e_lrange, e_meth, e_chain, e_chain3,
      wn, wp_bind, wp_one, fn_M, q_M, q_R, n_M, ty_M, ty_ML, l_M, e_con, mo_index, e_ladd, madd_ss, e_fnv, e_rev, rev_tup, rev_scr, fn_int, fn_bl, fn_non, fn_str, fn_tup, fn_scr, fn_fro, fn_ref, sz_0, sz_1, sz_2, sz_3, sz_4, sz_5, sz_6, sz_7, sz_8, sz_9, sz_10, sz_11, sz_12, e_isi2, e_lrep, m_rep, e_glob, tb_len, tb_rng, tb_rng2, tb_enum, rd_tup0, rd_tup1, rd_tup2, rd_si, dq_tup, dq_tups, dq_nil, dq_sn, dq_ns, dq_si, dq_is, dq_st, dq_ts, dq_nt, dq_tn, dq_it, dq_ti, dq_ni, dq_in, snoc_get, snoc_set, snoc_len, n_bl, ty_listi, ty_lists, ty_listn, ty_listb, ty_listt, ty_listc, ty_listf, ty_listr, ty_tupc, ty_strc, ty_intc, ty_intt, ty_ints, ty_intn, ty_bools, ty_booln, ty_boolt, ty_boolc, ty_strb, dq_bl, c_isb, c_isnb, n_scr, n_ref,  wp_lift, wp_noexc, wp_ok, wp_exc, wp_bad, bind_ok, lift_ok, wp_ite, conj_bad, b_add, b_addT, b_addL, b_sub, b_mul, b_rep, b_fdiv, b_mod, pw_9, pw_12, pw_15, pw_18, pw_19, pw_20, pw_43, pw_45, b_shl, i_add, i_sub, i_mul, i_fdiv, i_mod, c_eq, c_ne, c_lt, c_le, c_gt, c_ge, c_is, c_isNot, p_len, p_abs, p_min2, p_max2, p_int, p_intb, p_tuple, p_list, p_sum, p_any, p_all,
      q_tup, q_scr, q_fro, l_scr, l_fro, q_ref, l_ref, x_int, t_bl, t_int, t_non, t_tup, t_scr, ty_int, ty_intb, ty_bool, ty_booli, ty_tup, ty_tupi, ty_tupn, ty_tups, ty_str, sl_fro, sl_scr, sl_tup, nl_t, nl_f, k_tup, k_scr, k_fro, k_ref, wipe, s_ref, m_app, ix_40, ix_41, ix_42, ix_43, mo_ref, gd_t, mo_bits, m_bits, at_0, at_1, at_2, at_3, at_last, Option.bind_some, Option.map_some, lit_0, lit_1, lit_2, lit_3, lit_4, lit_5, lit_6, implies_true, Int.zero_add, Int.toNat_natCast, at_nat, List.getElem?_map, rd_int, rd_non, rd_bl, rd_str, dq_int, dq_non, dq_str, n_non, n_int, n_tup, n_str, ty_stri, ty_strn, ty_strt, ty_tupb, t_ref, start,
      List.getElem?_cons_zero, List.getElem?_cons_succ, List.set_cons_zero, List.set_cons_succ, List.map_cons, List.map_nil, List.length_cons, List.length_nil, List.replicate, List.cons_append, List.nil_append, Nat.reduceAdd, Nat.reduceSub, Int.reduceEq, Int.reduceToNat, Int.reduceBEq, Nat.reduceBEq, beq_self_eq_true, Int.reduceBNe, D.bl.injEq, Int.reduceLT, Int.reduceLE, Int.reduceAdd, Int.reduceSub, Int.reduceNeg, String.reduceEq, Nat.reduceEqDiff, gc_self, gc_cell, not_true, not_false_iff, or_self, or_true, true_or, or_false, false_or, and_false, false_and, and_self, eq_self, decide_true, decide_false,
      decide_eq_true_eq, decide_eq_false_iff_not, beq_iff_eq, beq_eq_false_iff_ne, Bool.not_eq_true', Bool.not_eq_false', Bool.not_eq_eq_eq_not, bne_iff_ne, Bool.or_false, Bool.or_true, Bool.false_or, Bool.true_or, Bool.and_false, Bool.and_true, Bool.false_and, Bool.true_and, not_false_eq_true, not_true_eq_false, Bool.not_true, Bool.not_false, true_and, and_true, ne_eq, forall_const, if_true, if_false, true_implies, false_implies, reduceCtorEq, Bool.false_eq_true, Bool.true_eq_false])
local macro_rules
  | `(tactic| simp_wf) => `(tactic| (rw [wc]; bv_omega))
open Lean.Grind Al
section
variable {P : Pg} {sub : String → String → Option Bool} {k : Nat} {st : Store} {Q : D → Store → Prop} {Er : String → Store → Prop} {c : Cell} {r : Store} {m n : Nat} {X : Dom}
theorem pr_65519 : IsPr (65519 : Nat) := isPr_chk (by decide) (by decide +kernel) (by decide)
theorem pr_ok {p : Nat} (h : p = 2 ∨ p = 3 ∨ p = 5 ∨ p = 7 ∨ p = 65519 ∨ p = 65521) : (Fd.F p).ok := by
  rcases h with rfl | rfl | rfl | rfl | rfl | rfl
  · exact ⟨pr_2, by decide⟩
  · exact ⟨pr_3, by decide⟩
  · exact ⟨pr_5, by decide⟩
  · exact ⟨pr_7, by decide⟩
  · exact ⟨pr_65519, by decide⟩
  · exact ⟨pr_65521, by decide⟩
/-- what may be drawn as the second domain -/
def EE (f : Dm) (e : D) : Prop := (∃ g : Dm, g.ok ∧ e = g.enc) ∨ e = .tup [.str "P", f.enc]
theorem pls_at : ∀ {n : Nat} {xs : List D}, pls n xs = true → ∀ x ∈ xs, pl n x = true
  | _, [], _, _, h => by cases h
  | n, y :: r, h, x, hx => by
    simp only [pls, Bool.and_eq_true] at h
    rcases List.mem_cons.mp hx with rfl | hx
    · exact h.1
    · exact pls_at h.2 x hx
theorem deq_pl : ∀ {n : Nat} {x : D}, pl n x = true → deq x x = true := by
  intro n
  induction n with
  | zero => intro x h; cases x <;> simp [pl, deq] at h ⊢
  | succ n ih =>
    intro x h
    cases x with
    | tup xs => simp only [pl] at h; simp only [deq]; exact deqs_refl xs fun y hy => ih (pls_at h y hy)
    | scr xs => simp only [pl] at h; simp only [deq]; exact deqs_refl xs fun y hy => ih (pls_at h y hy)
    | _ => simp [pl, deq] at h ⊢
theorem isin_non {y : Nat → Option D} (hp : ∀ j, j < n → ∀ z, y j = some z → pl 11 z = true ∧ deq z .non = false) : cop .isin .non (.tup (tb n fun j => (y j).getD .non)) st = .ok (.bl ((tb n fun j => (y j).getD .non).any fun z => deq z .non)) st := by
  have pr : rd st 40 (.tup (tb n fun j => (y j).getD .non)) = some (.tup (tb n fun j => (y j).getD .non)) := by
    refine rd_pl (pl_mono (n := 12) (by decide) (pl_row fun x hx => ?_))
    obtain ⟨j, hj, rfl⟩ := tb_mem hx
    cases hy : y j with
    | none => rfl
    | some z => exact (hp j hj z hy).1
  have nr : rd st 40 .non = some .non := rfl
  show (if (flat .non && (tb n fun j => (y j).getD .non).all flat) = true then _ else match rd st 40 .non, rd st 40 (.tup (tb n fun j => (y j).getD .non)) with
      | some a, some (.scr zs) => Out.ok (D.bl (zs.any fun z => deq z a)) st
      | some a, some (.tup zs) => .ok (D.bl (zs.any fun z => deq z a)) st
      | _, _ => .bad) = _
  rw [pr, nr]
  split <;> rfl
theorem any_non {y : Nat → Option D} (hp : ∀ j, j < n → ∀ z, y j = some z → pl 11 z = true ∧ deq z .non = false) : ((tb n fun j => (y j).getD .non).any fun z => deq z .non) = true ↔ ∃ j, j < n ∧ y j = none := by
  rw [List.any_eq_true]
  constructor
  · rintro ⟨x, hx, e⟩
    obtain ⟨j, hj, rfl⟩ := tb_mem hx
    cases hy : y j with
    | none => exact ⟨j, hj, hy⟩
    | some z =>
      rw [hy] at e
      rw [show (some z).getD .non = z from rfl, (hp j hj z hy).2] at e
      cases e
  · rintro ⟨j, hj, e⟩
    refine ⟨.non, ?_, rfl⟩
    have := List.mem_of_getElem? (tb_get (e := fun j => (y j).getD D.non) hj)
    rwa [e] at this
theorem k23_a (h : HasK23 P) (hsub : sub "DomainError" "DomainError" = some true) {ns : List Int} (hl : ns.length ≤ 63) :
    wp (callF P sub (k + 20) "_law_part_a" [.fro (ns.map .int)] []) (fun d st' => d = .bl true) NE := by
  have hlw := h.b.lw
  have ht := hlw.toHasTank
  refine wcall h.part_a rfl ?_
  dsimp only [Fn.f__law_part_a_b12fc0]
  rw [wc]; bv_omega
  refine wp_imp (start_ok h.b.lw.start hl) ?_
  rintro d s ⟨c0, rfl, hT, rfl⟩
  bv_omega
  rw [wc]; bv_omega
  refine wdomain hlw hT (by decide) fun f c1 hf hT => ?_
  bv_omega
  rw [wc]; bv_omega
  refine wdomain hlw hT (by decide) fun g c1 hg hT => ?_
  bv_omega
  refine wtake ht hT (by decide) (by omega) (by omega) fun v c1 h0 h1 hT => ?_
  bv_omega
  obtain ⟨p, hp, ep⟩ : ∃ p : Nat, (Fd.F p).ok ∧ atI [D.int 2, D.int 3, D.int 7] v = some (.int p) := by
    have : v = 0 ∨ v = 1 ∨ v = 2 := by omega
    rcases this with rfl | rfl | rfl
    · exact ⟨2, pr_ok (by simp), rfl⟩
    · exact ⟨3, pr_ok (by simp), rfl⟩
    · exact ⟨7, pr_ok (by simp), rfl⟩
  rw [ep]; bv_omega
  refine wtake ht hT (by decide) (by omega) (by omega) fun v c1 h0 h1 hT => ?_
  bv_omega
  obtain ⟨e, he, ee⟩ : ∃ e, EE f e ∧ atI [g.enc, D.tup [D.str "Q"], D.tup [D.str "P", f.enc], D.tup [D.str "Z"], D.tup [D.str "F", .int p]] v = some e := by
    have : v = 0 ∨ v = 1 ∨ v = 2 ∨ v = 3 ∨ v = 4 := by omega
    rcases this with rfl | rfl | rfl | rfl | rfl
    · exact ⟨_, .inl ⟨g, hg, rfl⟩, rfl⟩
    · exact ⟨_, .inl ⟨.fld .Q, trivial, rfl⟩, rfl⟩
    · exact ⟨_, .inr rfl, rfl⟩
    · exact ⟨_, .inl ⟨.Z, trivial, rfl⟩, rfl⟩
    · exact ⟨_, .inl ⟨.fld (.F p), hp, rfl⟩, rfl⟩
  rw [ee]; bv_omega
  rw [wc]
  refine wjoin (fun env s => ∃ (f' : Dm) (e' : D) (c' : Cell), f'.ok ∧ EE f' e' ∧ Tank c' 100 ∧ env = [some (.fro (ns.map .int)), some (.ref 0), some f'.enc, some e', none, none, none, none, none] ∧ s = [c']) ?_ fun env s hM => ?_
  · bv_omega
    refine wtake ht hT (by decide) (by omega) (by omega) fun v c1 h0 h1 hT => ?_
    bv_omega
    refine ⟨fun _ => ?_, fun _ => ⟨f, e, c1, hf, he, hT.mono (by omega), rfl, rfl⟩⟩
    rw [wc]; bv_omega
    refine wtake ht hT (by decide) (by omega) (by omega) fun v c1 h0 h1 hT => ?_
    bv_omega
    obtain ⟨p, hp, ep⟩ : ∃ p : Nat, (Fd.F p).ok ∧ atI [D.int 2, D.int 5, D.int 65521] v = some (.int p) := by
      have : v = 0 ∨ v = 1 ∨ v = 2 := by omega
      rcases this with rfl | rfl | rfl
      · exact ⟨2, pr_ok (by simp), rfl⟩
      · exact ⟨5, pr_ok (by simp), rfl⟩
      · exact ⟨65521, pr_ok (by simp), rfl⟩
    rw [ep]; bv_omega
    refine wtake ht hT (by decide) (by omega) (by omega) fun v c1 h0 h1 hT => ?_
    bv_omega
    have : v = 0 ∨ v = 1 ∨ v = 2 := by omega
    rcases this with rfl | rfl | rfl
    · -- the integers
      rw [show atI [D.tup [D.str "Z"], D.tup [D.str "Q"], D.tup [D.str "F", .int p]] 0 = some (D.tup [D.str "Z"]) from rfl]; bv_omega
      rw [wc]; bv_omega
      refine wtake ht hT (by decide) (by omega) (by omega) fun v c1 h0 h1 hT => ?_
      bv_omega
      obtain ⟨q, hq, eq⟩ : ∃ q : Nat, (Fd.F q).ok ∧ atI [D.int 2, D.int 7, D.int 65519, D.int 65521] v = some (.int q) := by
        have : v = 0 ∨ v = 1 ∨ v = 2 ∨ v = 3 := by omega
        rcases this with rfl | rfl | rfl | rfl
        · exact ⟨2, pr_ok (by simp), rfl⟩
        · exact ⟨7, pr_ok (by simp), rfl⟩
        · exact ⟨65519, pr_ok (by simp), rfl⟩
        · exact ⟨65521, pr_ok (by simp), rfl⟩
      rw [eq]; bv_omega
      rw [wc]; bv_omega
      refine wtake ht hT (by decide) (by omega) (by omega) fun v c1 h0 h1 hT => ?_
      bv_omega
      refine ⟨fun _ => ?_, fun _ => ?_⟩
      · rw [wc]; bv_omega
        exact ⟨.Z, _, c1, trivial, .inl ⟨.fld .Q, trivial, rfl⟩, hT.mono (by omega), rfl, rfl⟩
      · exact ⟨.Z, _, c1, trivial, .inl ⟨.fld (.F q), hq, rfl⟩, hT.mono (by omega), rfl, rfl⟩
    · rw [show atI [D.tup [D.str "Z"], D.tup [D.str "Q"], D.tup [D.str "F", .int p]] 1 = some (D.tup [D.str "Q"]) from rfl]; bv_omega
      rw [wc]; bv_omega
      refine wtake ht hT (by decide) (by omega) (by omega) fun v c1 h0 h1 hT => ?_
      bv_omega
      obtain ⟨q, hq, eq⟩ : ∃ q : Nat, (Fd.F q).ok ∧ atI [D.int 2, D.int 7, D.int 65519, D.int 65521] v = some (.int q) := by
        have : v = 0 ∨ v = 1 ∨ v = 2 ∨ v = 3 := by omega
        rcases this with rfl | rfl | rfl | rfl
        · exact ⟨2, pr_ok (by simp), rfl⟩
        · exact ⟨7, pr_ok (by simp), rfl⟩
        · exact ⟨65519, pr_ok (by simp), rfl⟩
        · exact ⟨65521, pr_ok (by simp), rfl⟩
      rw [eq]; bv_omega
      rw [wc]; bv_omega
      exact ⟨.fld .Q, _, c1, trivial, .inl ⟨.fld (.F q), hq, rfl⟩, hT.mono (by omega), rfl, rfl⟩
    · rw [show atI [D.tup [D.str "Z"], D.tup [D.str "Q"], D.tup [D.str "F", .int p]] 2 = some (D.tup [D.str "F", .int p]) from rfl]; bv_omega
      rw [wc]; bv_omega
      rw [wc]; bv_omega
      exact ⟨.fld (.F p), _, c1, hp, .inr rfl, hT.mono (by omega), rfl, rfl⟩
  obtain ⟨f', e', c', hf', he', hT', rfl, rfl⟩ := hM
  rw [wc]
  refine wjoin (fun env s => ∃ (g' : Dm) (c' : Cell), g'.ok ∧ Tank c' 100 ∧ env = [some (.fro (ns.map .int)), some (.ref 0), some f'.enc, some g'.enc, none, none, none, none, none] ∧ s = [c']) ?_ fun env s hM => ?_
  · rcases he' with ⟨g', hg', rfl⟩ | rfl
    · rcases g' with _ | (_ | q) | (_ | q)
      · simp only [Dm.enc, Fd.enc]
        bv_omega
        exact ⟨.Z, c', hg', hT', rfl, rfl⟩
      · simp only [Dm.enc, Fd.enc]
        bv_omega
        exact ⟨.fld .Q, c', hg', hT', rfl, rfl⟩
      · simp only [Dm.enc, Fd.enc]
        bv_omega
        exact ⟨.fld (.F q), c', hg', hT', rfl, rfl⟩
      · simp only [Dm.enc, Fd.enc]
        bv_omega
        rw [show cop .isin (.str "Q") (.scr [.str "P", .str "Z"]) [c'] = .ok (.bl false) [c'] from rfl]; bv_omega
        exact ⟨.P .Q, c', hg', hT', rfl, rfl⟩
      · simp only [Dm.enc, Fd.enc]
        bv_omega
        rw [show cop .isin (.str "F") (.scr [.str "P", .str "Z"]) [c'] = .ok (.bl false) [c'] from rfl]; bv_omega
        exact ⟨.P (.F q), c', hg', hT', rfl, rfl⟩
    · rcases f' with _ | (_ | q) | (_ | q)
      · simp only [Dm.enc, Fd.enc]
        bv_omega
        rw [show cop .isin (.str "Z") (.scr [.str "P", .str "Z"]) [c'] = .ok (.bl true) [c'] from rfl]; bv_omega
        rw [wc]; bv_omega
        exact ⟨.fld .Q, c', trivial, hT', rfl, rfl⟩
      · simp only [Dm.enc, Fd.enc]
        bv_omega
        rw [show cop .isin (.str "Q") (.scr [.str "P", .str "Z"]) [c'] = .ok (.bl false) [c'] from rfl]; bv_omega
        exact ⟨.P .Q, c', hf', hT', rfl, rfl⟩
      · simp only [Dm.enc, Fd.enc]
        bv_omega
        rw [show cop .isin (.str "F") (.scr [.str "P", .str "Z"]) [c'] = .ok (.bl false) [c'] from rfl]; bv_omega
        exact ⟨.P (.F q), c', hf', hT', rfl, rfl⟩
      · simp only [Dm.enc, Fd.enc]
        bv_omega
        rw [show cop .isin (.str "P") (.scr [.str "P", .str "Z"]) [c'] = .ok (.bl true) [c'] from rfl]; bv_omega
        rw [wc]; bv_omega
        exact ⟨.fld .Q, c', trivial, hT', rfl, rfl⟩
      · simp only [Dm.enc, Fd.enc]
        bv_omega
        rw [show cop .isin (.str "P") (.scr [.str "P", .str "Z"]) [c'] = .ok (.bl true) [c'] from rfl]; bv_omega
        rw [wc]; bv_omega
        exact ⟨.fld .Q, c', trivial, hT', rfl, rfl⟩
  clear hT' he'
  obtain ⟨g', c', hg', hT', rfl, rfl⟩ := hM
  obtain ⟨X, hX, eX, hk⟩ := kind (sub := sub) h hf' hg'
  obtain ⟨Y, hY, eY⟩ := dom_of hg'
  have re : ∀ st, rd st 40 g'.enc = some g'.enc := fun st => by rw [← eY]; exact ddrd hY
  rw [wc]; bv_omega
  refine wshape h.lshape ht hT' (by decide) fun m c1 hm hT => ?_
  bv_omega
  refine wshape h.lshape ht hT (by decide) fun n c1 hn hT => ?_
  bv_omega
  rw [← eX]
  refine wmatrix (X := X) h.b.lmatrix h.b.small hlw hX hT (by decide) (by omega) (by omega) fun a c1 ha hT => ?_
  bv_omega
  rw [wc]; simp only [exec]
  have fe : Lg.ev { gl := P.gl, call := callF P sub (k + 19), ci := P.ci } fitsE [some (.fro (ns.map .int)), some (.ref 0), some X.d, some g'.enc, some (encM X m n a), none, none, none, none] [c1] = .ok (.bl (mcB f' g')) [c1] := fits_ev (by rw [← eX]; rfl) rfl
  unfold fitsE at fe
  rw [fe]; bv_omega
  have d1 : ∀ st, callF P sub (k + 17) "is_domain" [X.d] st = .ok (.bl true) st := fun st => by rw [eX]; exact is_domain_ok (k := k + 14) h.dom hf'
  have d2 : ∀ st, callF P sub (k + 17) "is_domain" [g'.enc] st = .ok (.bl true) st := fun st => is_domain_ok (k := k + 14) h.dom hg'
  have mc : ∀ st, callF P sub (k + 17) "may_change" [X.d, g'.enc] st = .ok (.bl (mcB f' g')) st := fun st => by rw [eX]; exact mc_ok (k := k + 13) h hf' hg'
  rw [wc]; bv_omega
  rw [ddrd hX]; bv_omega
  rw [re]; bv_omega
  rw [← eX] at hk
  rcases hk with hk | ⟨hq, hm2, cv, cp, cl, cpl⟩ | ⟨hq, hm2⟩
  · -- the same
    subst hk
    have hs : deq X.d f'.enc = true := by rw [eX]; exact deq_pl (n := 10) (by rw [← eX]; exact d_pl hX)
    refine ⟨fun _ => ?_, fun z => absurd hs z⟩
    rw [wc]; bv_omega
    refine wp_mono (told_ok (k := k + 11) h hsub hX (by omega) (by omega) (y := fun i j => some (X.enc (a i j))) (re _) (d1 _) (d2 _) (fun z => by rw [hs] at z; cases z) (fun i j => by rw [← eX]; exact chp_same h hX (a i j))) ?_ (fun _ _ z => z.elim)
    rintro d s ⟨rfl, hd⟩
    rcases hd with ⟨_, rfl⟩ | ⟨⟨i, j, hi, hj, z⟩, _⟩
    · have pm : rd [c1] 40 (encM X m n a) = some (encM X m n a) := rd_pl (pl_mono (by decide) (pl_M hX))
      rw [show D.tup [.int m, .int n, .tup (tb m fun i => .tup (tb n fun j => (some (X.enc (a i j))).getD .non))] = encM X m n a from rfl]
      bv_omega
      rw [pm]; bv_omega
      exact deq_pl (pl_M hX)
    · cases z
  · refine ⟨fun z => (by rw [hq] at z; cases z), fun _ => ?_⟩
    rw [wc]; bv_omega
    refine ⟨fun z => (by rw [hm2] at z; cases z), fun _ => ?_⟩
    rw [wc]
    unfold encM
    bv_omega
    rw [wc]; bv_omega
    refine wforN (fun i env s => (∃ z7 z8, env = [some (.fro (ns.map .int)), some (.ref 0), some X.d, some g'.enc, some (.tup [.int (m : Nat), .int (n : Nat), .tup (tb m fun i => encR X n (a i))]), some (.bl (mcB f' g')), some (.ref 1), z7, z8]) ∧ (∀ i', i' < i → ∀ j, j < n → (cv (a i' j)).isSome = true) ∧
      s = [c1, .lst (tb i fun i => .tup (tb n fun j => (cv (a i j)).getD .non))]) (fun i env s hI => rfl) (fun i env s hi hI => ?_) (fun env s hI => ?_) _ _ ?_
    · obtain ⟨⟨z7, z8, rfl⟩, hall, rfl⟩ := hI
      unfold encR
      bv_omega
      rw [wc]; bv_omega
      have mcT : ∀ st, callF P sub (k + 17) "may_change" [X.d, g'.enc] st = .ok (.bl true) st := fun st => by rw [mc, hm2]
      refine wmapN (f := fun j => (cv (a i j)).getD .non) rfl (size_ok (by omega)) (fun j hj => ?_) ?_
      · bv_omega
        rw [show ∀ st, callF P sub (k + 19) "_law_changed" [X.d, g'.enc, X.enc (a i j)] st = .ok ((cv (a i j)).getD .non) st from fun st => cl (a i j) (k + 12) st]; bv_omega
      · bv_omega
        refine ⟨Nat.lt_of_lt_of_le (show i < 16 by omega) (by decide), ?_⟩
        rw [wc]; bv_omega
        rw [List.getLast?_concat]; bv_omega
        rw [isin_non (y := fun j => cv (a i j)) fun j hj z e => cpl _ _ e]; bv_omega
        have an := any_non (n := n) (y := fun j => cv (a i j)) fun j hj z e => cpl _ _ e
        refine ⟨fun z => ?_, fun z => ?_⟩
        · rw [wc]; bv_omega
          obtain ⟨j0, hj0, e0⟩ := an.mp z
          refine wp_mono (show wp (callF P sub (k + 19) "_law_told" [X.d, g'.enc, encM X m n a] _) _ _ from told_ok (k := k + 11) h hsub hX (by omega) (by omega) (y := fun i j => cv (a i j)) (re _) (d1 _) (d2 _) (fun _ => by rw [mc, hm2]) (fun i j => cp (a i j))) ?_ (fun _ _ z => z.elim)
          rintro d s ⟨rfl, hd⟩
          rcases hd with ⟨q, _⟩ | ⟨_, rfl⟩
          · have := q i j0 hi hj0
            rw [show cv (a i j0) = none from e0] at this
            cases this
          · bv_omega
        · refine ⟨⟨_, _, rfl⟩, fun i' hi' j hj => ?_, by rw [tb_succ]⟩
          by_cases e : i' = i
          · subst e
            cases q : cv (a i' j) with
            | some w => rfl
            | none => exact absurd (an.mpr ⟨j, hj, q⟩) z
          · exact hall i' (by omega) j hj
    · obtain ⟨⟨z7, z8, rfl⟩, hall, rfl⟩ := hI
      bv_omega
      rw [wc]; bv_omega
      refine wp_mono (show wp (callF P sub (k + 19) "_law_told" [X.d, g'.enc, encM X m n a] _) _ _ from told_ok (k := k + 11) h hsub hX (by omega) (by omega) (y := fun i j => cv (a i j)) (re _) (d1 _) (d2 _) (fun _ => by rw [mc, hm2]) (fun i j => cp (a i j))) ?_ (fun _ _ z => z.elim)
      rintro d s ⟨rfl, hd⟩
      rcases hd with ⟨_, rfl⟩ | ⟨⟨i, j, hi, hj, z⟩, _⟩
      · have pt : pl 14 (.tup [.int (m : Nat), .int (n : Nat), .tup (tb m fun i => .tup (tb n fun j => (cv (a i j)).getD .non))]) = true := by
          refine pl_three (n := 13) rfl rfl (pl_row (n := 12) fun x hx => ?_)
          obtain ⟨i, hi, rfl⟩ := tb_mem hx
          refine pl_row (n := 11) fun x hx => ?_
          obtain ⟨j, hj, rfl⟩ := tb_mem hx
          cases e : cv (a i j) with
          | none => rfl
          | some z => exact (cpl _ _ e).1
        have pm : rd [c1, Cell.lst (tb m fun i => D.tup (tb n fun j => (cv (a i j)).getD D.non))] 40 _ = some _ := rd_pl (pl_mono (by decide) pt)
        bv_omega
        rw [pm]; bv_omega
        simpa [deq, deqs] using deq_pl pt
      · have := hall i hi j hj
        rw [z] at this
        cases this
    · exact ⟨⟨_, _, rfl⟩, fun i' h' => absurd h' (by omega), rfl⟩
  · refine ⟨fun z => (by rw [hq] at z; cases z), fun _ => ?_⟩
    rw [wc]; bv_omega
    refine ⟨fun _ => ?_, fun z => absurd hm2 z⟩
    rw [wc]; bv_omega
    rw [told_bad (k := k + 11) h hsub (ddrd hX) (re _) (d1 _) (d2 _) hq (by rw [mc, hm2])]; bv_omega
theorem ints_map (ns : List Int) : intsD (ns.map D.int) = some ns := by
  induction ns with
  | nil => rfl
  | cons n r ih => simp [intsD, ih]
theorem k23_law (h : HasK23 P) (hsub : sub "DomainError" "DomainError" = some true) {ns : List Int} (hl : ns.length ≤ 63) :
    ∃ st', callF P sub (k + 21) "law" [.fro (ns.map .int)] [] = .ok (.bl true) st' := by
  have main : wp (callF P sub (k + 21) "law" [.fro (ns.map .int)] []) (fun d st' => d = .bl true) NE := by
    refine wcall h.law rfl ?_
    dsimp only [Fn.f_law]
    rw [wc]; bv_omega
    have e : cut (ns.map D.int) none (some 63) = ns.map D.int := by
      rw [show (63 : Int) = ((63 : Nat) : Int) from rfl, cut_to, List.take_of_length_le (by rw [List.length_map]; exact hl)]
    rw [e]
    refine wmap id rfl (by rw [List.length_map]; exact Nat.le_trans hl (by decide)) (fun x hx => ?_) ?_
    · obtain ⟨i, _, rfl⟩ := List.mem_map.mp hx
      bv_omega
      rfl
    · rw [List.map_id, ints_map]; bv_omega
      generalize ((ns.sum).fdiv 7).fmod 2 = which
      refine ⟨div_ok (by decide), ?_⟩
      rw [wc]
      refine wjoin (fun e s => e = [some (.fro (ns.map .int)), some (.int which), none] ∧ s = []) ?_ ?_
      · bv_omega
        refine fun _ => ?_
        rw [wc]; bv_omega
        refine wp_imp (k23_a h hsub hl) ?_
        rintro d _ rfl
        rfl
      rintro e s ⟨rfl, rfl⟩
      rw [wc]; bv_omega
      refine wp_imp (k23_b h.b hl) ?_
      rintro d _ rfl
      rfl
  obtain ⟨d, st', e, rfl⟩ := ex_wp main
  exact ⟨st', e⟩
end
end Lp
namespace Rwk23
def f_common : Lg.Fn := Fn.f_common
def f_divisor : Lg.Fn := Fn.f_divisor
def f_is_prime : Lg.Fn := Fn.f_is_prime
def f_fraction : Lg.Fn := Fn.f_fraction
def f_is_integer : Lg.Fn := Fn.f_is_integer
def f_is_domain : Lg.Fn := Fn.f_is_domain
def f_is_field : Lg.Fn := Fn.f_is_field
def f_need_domain : Lg.Fn := Fn.f_need_domain
def f_need_field : Lg.Fn := Fn.f_need_field
def f_zero : Lg.Fn := Fn.f_zero
def f_one : Lg.Fn := Fn.f_one
def f_from_integer : Lg.Fn := Fn.f_from_integer
def f_trimmed : Lg.Fn := Fn.f_trimmed
def f_add : Lg.Fn := Fn.f_add
def f_multiply : Lg.Fn := Fn.f_multiply
def f_inverse : Lg.Fn := Fn.f_inverse
def f_quotient : Lg.Fn := Fn.f_quotient
def f_need_shape : Lg.Fn := Fn.f_need_shape
def f_need_square : Lg.Fn := Fn.f_need_square
def f_identity : Lg.Fn := Fn.f_identity
def f_zero_matrix : Lg.Fn := Fn.f_zero_matrix
def f_plus : Lg.Fn := Fn.f_plus
def f_dot : Lg.Fn := Fn.f_dot
def f_times : Lg.Fn := Fn.f_times
def f_scaled : Lg.Fn := Fn.f_scaled
def f_transposed : Lg.Fn := Fn.f_transposed
def f_may_change : Lg.Fn := Fn.f_may_change
def f_changed : Lg.Fn := Fn.f_changed
def f_change : Lg.Fn := Fn.f_change_0f7aff
def f_evaluated : Lg.Fn := Fn.f_evaluated
def f__law_start : Lg.Fn := Fn.f__law_start
def f__law_fill : Lg.Fn := Fn.f__law_fill
def f__law_take : Lg.Fn := Fn.f__law_take
def f__law_raised : Lg.Fn := Fn.f__law_raised
def f__law_common : Lg.Fn := Fn.f__law_common
def f__law_fraction : Lg.Fn := Fn.f__law_fraction
def f__law_zero : Lg.Fn := Fn.f__law_zero
def f__law_strip : Lg.Fn := Fn.f__law_strip
def f__law_number : Lg.Fn := Fn.f__law_number
def f__law_part : Lg.Fn := Fn.f__law_part
def f__law_add : Lg.Fn := Fn.f__law_add
def f__law_multiply : Lg.Fn := Fn.f__law_multiply
def f__law_subtract : Lg.Fn := Fn.f__law_subtract
def f__law_power : Lg.Fn := Fn.f__law_power
def f__law_inverse : Lg.Fn := Fn.f__law_inverse
def f__law_some_prime : Lg.Fn := Fn.f__law_some_prime
def f__law_field : Lg.Fn := Fn.f__law_field
def f__law_domain : Lg.Fn := Fn.f__law_domain
def f__law_integer : Lg.Fn := Fn.f__law_integer
def f__law_element : Lg.Fn := Fn.f__law_element
def f__law_small : Lg.Fn := Fn.f__law_small
def f__law_matrix : Lg.Fn := Fn.f__law_matrix
def f__law_dot : Lg.Fn := Fn.f__law_dot
def f__law_column : Lg.Fn := Fn.f__law_column
def f__law_product : Lg.Fn := Fn.f__law_product
def f__law_identity : Lg.Fn := Fn.f__law_identity
def f__law_shape : Lg.Fn := Fn.f__law_shape
def f__law_changed : Lg.Fn := Fn.f__law_changed
def f__law_told : Lg.Fn := Fn.f__law_told_2c9aa0
def f__law_same : Lg.Fn := Fn.f__law_same
def f__law_part_a : Lg.Fn := Fn.f__law_part_a_b12fc0
def f__law_part_b : Lg.Fn := Fn.f__law_part_b_ec9db8
def f_law : Lg.Fn := Fn.f_law
def fnOf : String → Option Lg.Fn
  | "common" => some f_common
  | "divisor" => some f_divisor
  | "is_prime" => some f_is_prime
  | "fraction" => some f_fraction
  | "is_integer" => some f_is_integer
  | "is_domain" => some f_is_domain
  | "is_field" => some f_is_field
  | "need_domain" => some f_need_domain
  | "need_field" => some f_need_field
  | "zero" => some f_zero
  | "one" => some f_one
  | "from_integer" => some f_from_integer
  | "trimmed" => some f_trimmed
  | "add" => some f_add
  | "multiply" => some f_multiply
  | "inverse" => some f_inverse
  | "quotient" => some f_quotient
  | "need_shape" => some f_need_shape
  | "need_square" => some f_need_square
  | "identity" => some f_identity
  | "zero_matrix" => some f_zero_matrix
  | "plus" => some f_plus
  | "dot" => some f_dot
  | "times" => some f_times
  | "scaled" => some f_scaled
  | "transposed" => some f_transposed
  | "may_change" => some f_may_change
  | "changed" => some f_changed
  | "change" => some f_change
  | "evaluated" => some f_evaluated
  | "_law_start" => some f__law_start
  | "_law_fill" => some f__law_fill
  | "_law_take" => some f__law_take
  | "_law_raised" => some f__law_raised
  | "_law_common" => some f__law_common
  | "_law_fraction" => some f__law_fraction
  | "_law_zero" => some f__law_zero
  | "_law_strip" => some f__law_strip
  | "_law_number" => some f__law_number
  | "_law_part" => some f__law_part
  | "_law_add" => some f__law_add
  | "_law_multiply" => some f__law_multiply
  | "_law_subtract" => some f__law_subtract
  | "_law_power" => some f__law_power
  | "_law_inverse" => some f__law_inverse
  | "_law_some_prime" => some f__law_some_prime
  | "_law_field" => some f__law_field
  | "_law_domain" => some f__law_domain
  | "_law_integer" => some f__law_integer
  | "_law_element" => some f__law_element
  | "_law_small" => some f__law_small
  | "_law_matrix" => some f__law_matrix
  | "_law_dot" => some f__law_dot
  | "_law_column" => some f__law_column
  | "_law_product" => some f__law_product
  | "_law_identity" => some f__law_identity
  | "_law_shape" => some f__law_shape
  | "_law_changed" => some f__law_changed
  | "_law_told" => some f__law_told
  | "_law_same" => some f__law_same
  | "_law_part_a" => some f__law_part_a
  | "_law_part_b" => some f__law_part_b
  | "law" => some f_law
  | _ => none
def ciOf : String → Option Lg.CI := So.ciL cl
def pg : Lg.Pg := ⟨fnOf, So.glL gi, ciOf⟩
end Rwk23
namespace Rwk23
open PySem PySem.Spec L2 So
def d_common : Df := ⟨"common", "common", none, topS 6, f_common, ["a", "b", "first", "second", "q", "g", "s", "t"], ["a", "b"]⟩
def d_divisor : Df := ⟨"divisor", "divisor", none, topS 7, f_divisor, ["a", "b"], ["a", "b"]⟩
def d_is_prime : Df := ⟨"is_prime", "is_prime", none, topS 8, f_is_prime, ["n", "k"], ["n"]⟩
def d_fraction : Df := ⟨"fraction", "fraction", none, topS 9, f_fraction, ["n", "d", "g"], ["n", "d"]⟩
def d_is_integer : Df := ⟨"is_integer", "is_integer", none, topS 12, f_is_integer, ["x"], ["x"]⟩
def d_is_domain : Df := ⟨"is_domain", "is_domain", none, topS 13, f_is_domain, ["d"], ["d"]⟩
def d_is_field : Df := ⟨"is_field", "is_field", none, topS 14, f_is_field, ["d"], ["d"]⟩
def d_need_domain : Df := ⟨"need_domain", "need_domain", none, topS 15, f_need_domain, ["d"], ["d"]⟩
def d_need_field : Df := ⟨"need_field", "need_field", none, topS 16, f_need_field, ["d"], ["d"]⟩
def d_zero : Df := ⟨"zero", "zero", none, topS 17, f_zero, ["d"], ["d"]⟩
def d_one : Df := ⟨"one", "one", none, topS 18, f_one, ["d"], ["d"]⟩
def d_from_integer : Df := ⟨"from_integer", "from_integer", none, topS 19, f_from_integer, ["d", "n"], ["d", "n"]⟩
def d_trimmed : Df := ⟨"trimmed", "trimmed", none, topS 20, f_trimmed, ["f", "coefficients", "many"], ["f", "coefficients"]⟩
def d_add : Df := ⟨"add", "add", none, topS 21, f_add, ["d", "x", "y", "f", "found", "k", "part"], ["d", "x", "y"]⟩
def d_multiply : Df := ⟨"multiply", "multiply", none, topS 22, f_multiply, ["d", "x", "y", "f", "found", "k", "i", "left", "j", "right"], ["d", "x", "y"]⟩
def d_inverse : Df := ⟨"inverse", "inverse", none, topS 23, f_inverse, ["f", "x", "g", "s", "t"], ["f", "x"]⟩
def d_quotient : Df := ⟨"quotient", "quotient", none, topS 24, f_quotient, ["f", "x", "y"], ["f", "x", "y"]⟩
def d_need_shape : Df := ⟨"need_shape", "need_shape", none, topS 26, f_need_shape, ["holds"], ["holds"]⟩
def d_need_square : Df := ⟨"need_square", "need_square", none, topS 27, f_need_square, ["a"], ["a"]⟩
def d_identity : Df := ⟨"identity", "identity", none, topS 28, f_identity, ["d", "n", "rows", "i", "j"], ["d", "n"]⟩
def d_zero_matrix : Df := ⟨"zero_matrix", "zero_matrix", none, topS 29, f_zero_matrix, ["d", "m", "n", "j", "i"], ["d", "m", "n"]⟩
def d_plus : Df := ⟨"plus", "plus", none, topS 30, f_plus, ["d", "a", "b", "rows", "i", "row", "j", "x"], ["d", "a", "b"]⟩
def d_dot : Df := ⟨"dot", "dot", none, topS 31, f_dot, ["d", "v", "w", "found", "k", "x"], ["d", "v", "w"]⟩
def d_times : Df := ⟨"times", "times", none, topS 32, f_times, ["d", "a", "b", "columns", "rows", "row", "column"], ["d", "a", "b"]⟩
def d_scaled : Df := ⟨"scaled", "scaled", none, topS 33, f_scaled, ["d", "x", "a", "y", "row"], ["d", "x", "a"]⟩
def d_transposed : Df := ⟨"transposed", "transposed", none, topS 34, f_transposed, ["a", "row", "j"], ["a"]⟩
def d_may_change : Df := ⟨"may_change", "may_change", none, topS 35, f_may_change, ["d", "e"], ["d", "e"]⟩
def d_changed : Df := ⟨"changed", "changed", none, topS 36, f_changed, ["d", "e", "x"], ["d", "e", "x"]⟩
def d_change : Df := ⟨"change", "change", none, topS 37, f_change, ["d", "e", "a", "x", "row"], ["d", "e", "a"]⟩
def d_evaluated : Df := ⟨"evaluated", "evaluated", none, topS 38, f_evaluated, ["f", "g", "a", "found", "x"], ["f", "g", "a"]⟩
def d__law_start : Df := ⟨"_law_start", "_law_start", none, topS 40, f__law_start, ["script", "cell"], ["script"]⟩
def d__law_fill : Df := ⟨"_law_fill", "_law_fill", none, topS 41, f__law_fill, ["c", "number"], ["c"]⟩
def d__law_take : Df := ⟨"_law_take", "_law_take", none, topS 42, f__law_take, ["c", "many", "digit"], ["c", "many"]⟩
def d__law_raised : Df := ⟨"_law_raised", "_law_raised", none, topS 43, f__law_raised, ["b", "k", "found", "j"], ["b", "k"]⟩
def d__law_common : Df := ⟨"_law_common", "_law_common", none, topS 44, f__law_common, ["a", "b", "rest"], ["a", "b"]⟩
def d__law_fraction : Df := ⟨"_law_fraction", "_law_fraction", none, topS 45, f__law_fraction, ["n", "m", "g"], ["n", "m"]⟩
def d__law_zero : Df := ⟨"_law_zero", "_law_zero", none, topS 46, f__law_zero, ["d"], ["d"]⟩
def d__law_strip : Df := ⟨"_law_strip", "_law_strip", none, topS 47, f__law_strip, ["f", "parts", "many"], ["f", "parts"]⟩
def d__law_number : Df := ⟨"_law_number", "_law_number", none, topS 48, f__law_number, ["d", "n"], ["d", "n"]⟩
def d__law_part : Df := ⟨"_law_part", "_law_part", none, topS 49, f__law_part, ["d", "x", "k"], ["d", "x", "k"]⟩
def d__law_add : Df := ⟨"_law_add", "_law_add", none, topS 50, f__law_add, ["d", "x", "y", "long", "k"], ["d", "x", "y"]⟩
def d__law_multiply : Df := ⟨"_law_multiply", "_law_multiply", none, topS 51, f__law_multiply, ["d", "x", "y", "parts", "i", "j"], ["d", "x", "y"]⟩
def d__law_subtract : Df := ⟨"_law_subtract", "_law_subtract", none, topS 52, f__law_subtract, ["d", "x", "y"], ["d", "x", "y"]⟩
def d__law_power : Df := ⟨"_law_power", "_law_power", none, topS 53, f__law_power, ["d", "x", "k", "result"], ["d", "x", "k"]⟩
def d__law_inverse : Df := ⟨"_law_inverse", "_law_inverse", none, topS 54, f__law_inverse, ["f", "x"], ["f", "x"]⟩
def d__law_some_prime : Df := ⟨"_law_some_prime", "_law_some_prime", none, topS 55, f__law_some_prime, ["c", "p", "k"], ["c"]⟩
def d__law_field : Df := ⟨"_law_field", "_law_field", none, topS 56, f__law_field, ["c", "primes", "k"], ["c"]⟩
def d__law_domain : Df := ⟨"_law_domain", "_law_domain", none, topS 57, f__law_domain, ["c", "k"], ["c"]⟩
def d__law_integer : Df := ⟨"_law_integer", "_law_integer", none, topS 58, f__law_integer, ["c", "k", "n"], ["c"]⟩
def d__law_element : Df := ⟨"_law_element", "_law_element", none, topS 59, f__law_element, ["c", "d", "n", "k"], ["c", "d"]⟩
def d__law_small : Df := ⟨"_law_small", "_law_small", none, topS 60, f__law_small, ["c", "d", "k"], ["c", "d"]⟩
def d__law_matrix : Df := ⟨"_law_matrix", "_law_matrix", none, topS 61, f__law_matrix, ["c", "d", "m", "n", "j", "i"], ["c", "d", "m", "n"]⟩
def d__law_dot : Df := ⟨"_law_dot", "_law_dot", none, topS 62, f__law_dot, ["d", "u", "v", "total", "k"], ["d", "u", "v"]⟩
def d__law_column : Df := ⟨"_law_column", "_law_column", none, topS 63, f__law_column, ["a", "j", "row"], ["a", "j"]⟩
def d__law_product : Df := ⟨"_law_product", "_law_product", none, topS 64, f__law_product, ["d", "a", "b", "columns", "j", "column", "row"], ["d", "a", "b"]⟩
def d__law_identity : Df := ⟨"_law_identity", "_law_identity", none, topS 65, f__law_identity, ["d", "n", "units", "j", "i"], ["d", "n"]⟩
def d__law_shape : Df := ⟨"_law_shape", "_law_shape", none, topS 66, f__law_shape, ["c"], ["c"]⟩
def d__law_changed : Df := ⟨"_law_changed", "_law_changed", none, topS 67, f__law_changed, ["d", "e", "x"], ["d", "e", "x"]⟩
def d__law_told : Df := ⟨"_law_told", "_law_told", none, topS 68, f__law_told, ["d", "e", "a", "told"], ["d", "e", "a"]⟩
def d__law_same : Df := ⟨"_law_same", "_law_same", none, topS 69, f__law_same, ["told", "due", "k"], ["told", "due"]⟩
def d__law_part_a : Df := ⟨"_law_part_a", "_law_part_a", none, topS 70, f__law_part_a, ["script", "c", "d", "e", "a", "fits", "rows", "row", "x"], ["script"]⟩
def d__law_part_b : Df := ⟨"_law_part_b", "_law_part_b", none, topS 71, f__law_part_b, ["script", "c", "f", "n", "a", "g", "k", "power", "total", "x", "rows", "i", "row", "other", "j"], ["script"]⟩
def d_law : Df := ⟨"law", "law", none, topS 72, f_law, ["script", "which", "cell"], ["script"]⟩
def ds0 : List Df := [d_common, d_divisor, d_is_prime, d_fraction, d_is_integer, d_is_domain, d_is_field, d_need_domain, d_need_field, d_zero, d_one, d_from_integer, d_trimmed, d_add, d_multiply, d_inverse, d_quotient, d_need_shape, d_need_square, d_identity, d_zero_matrix, d_plus, d_dot, d_times, d_scaled, d_transposed, d_may_change, d_changed, d_change, d_evaluated]
def ds1 : List Df := [d__law_start, d__law_fill, d__law_take, d__law_raised, d__law_common, d__law_fraction, d__law_zero, d__law_strip, d__law_number, d__law_part, d__law_add, d__law_multiply, d__law_subtract, d__law_power, d__law_inverse, d__law_some_prime, d__law_field, d__law_domain, d__law_integer, d__law_element, d__law_small, d__law_matrix, d__law_dot, d__law_column, d__law_product, d__law_identity, d__law_shape, d__law_changed, d__law_told, d__law_same]
def ds2 : List Df := [d__law_part_a, d__law_part_b, d_law]
def ds : List Df := ds0 ++ ds1 ++ ds2
def fs : List String := So.fnames ds
def gs : List String := ["MOST_PRIME"]
theorem c_common : chkD fs gs xs cs ks d_common = true := by decide +kernel
theorem b_common : BindH d_common := fun _ _ _ _ _ _ us hl => match us, hl with | [_, _], _ => rfl
theorem c_divisor : chkD fs gs xs cs ks d_divisor = true := by decide +kernel
theorem b_divisor : BindH d_divisor := fun _ _ _ _ _ _ us hl => match us, hl with | [_, _], _ => rfl
theorem c_is_prime : chkD fs gs xs cs ks d_is_prime = true := by decide +kernel
theorem b_is_prime : BindH d_is_prime := fun _ _ _ _ _ _ us hl => match us, hl with | [_], _ => rfl
theorem c_fraction : chkD fs gs xs cs ks d_fraction = true := by decide +kernel
theorem b_fraction : BindH d_fraction := fun _ _ _ _ _ _ us hl => match us, hl with | [_, _], _ => rfl
theorem c_is_integer : chkD fs gs xs cs ks d_is_integer = true := by decide +kernel
theorem b_is_integer : BindH d_is_integer := fun _ _ _ _ _ _ us hl => match us, hl with | [_], _ => rfl
theorem c_is_domain : chkD fs gs xs cs ks d_is_domain = true := by decide +kernel
theorem b_is_domain : BindH d_is_domain := fun _ _ _ _ _ _ us hl => match us, hl with | [_], _ => rfl
theorem c_is_field : chkD fs gs xs cs ks d_is_field = true := by decide +kernel
theorem b_is_field : BindH d_is_field := fun _ _ _ _ _ _ us hl => match us, hl with | [_], _ => rfl
theorem c_need_domain : chkD fs gs xs cs ks d_need_domain = true := by decide +kernel
theorem b_need_domain : BindH d_need_domain := fun _ _ _ _ _ _ us hl => match us, hl with | [_], _ => rfl
theorem c_need_field : chkD fs gs xs cs ks d_need_field = true := by decide +kernel
theorem b_need_field : BindH d_need_field := fun _ _ _ _ _ _ us hl => match us, hl with | [_], _ => rfl
theorem c_zero : chkD fs gs xs cs ks d_zero = true := by decide +kernel
theorem b_zero : BindH d_zero := fun _ _ _ _ _ _ us hl => match us, hl with | [_], _ => rfl
theorem c_one : chkD fs gs xs cs ks d_one = true := by decide +kernel
theorem b_one : BindH d_one := fun _ _ _ _ _ _ us hl => match us, hl with | [_], _ => rfl
theorem c_from_integer : chkD fs gs xs cs ks d_from_integer = true := by decide +kernel
theorem b_from_integer : BindH d_from_integer := fun _ _ _ _ _ _ us hl => match us, hl with | [_, _], _ => rfl
theorem c_trimmed : chkD fs gs xs cs ks d_trimmed = true := by decide +kernel
theorem b_trimmed : BindH d_trimmed := fun _ _ _ _ _ _ us hl => match us, hl with | [_, _], _ => rfl
theorem c_add : chkD fs gs xs cs ks d_add = true := by decide +kernel
theorem b_add : BindH d_add := fun _ _ _ _ _ _ us hl => match us, hl with | [_, _, _], _ => rfl
theorem c_multiply : chkD fs gs xs cs ks d_multiply = true := by decide +kernel
theorem b_multiply : BindH d_multiply := fun _ _ _ _ _ _ us hl => match us, hl with | [_, _, _], _ => rfl
theorem c_inverse : chkD fs gs xs cs ks d_inverse = true := by decide +kernel
theorem b_inverse : BindH d_inverse := fun _ _ _ _ _ _ us hl => match us, hl with | [_, _], _ => rfl
theorem c_quotient : chkD fs gs xs cs ks d_quotient = true := by decide +kernel
theorem b_quotient : BindH d_quotient := fun _ _ _ _ _ _ us hl => match us, hl with | [_, _, _], _ => rfl
theorem c_need_shape : chkD fs gs xs cs ks d_need_shape = true := by decide +kernel
theorem b_need_shape : BindH d_need_shape := fun _ _ _ _ _ _ us hl => match us, hl with | [_], _ => rfl
theorem c_need_square : chkD fs gs xs cs ks d_need_square = true := by decide +kernel
theorem b_need_square : BindH d_need_square := fun _ _ _ _ _ _ us hl => match us, hl with | [_], _ => rfl
theorem c_identity : chkD fs gs xs cs ks d_identity = true := by decide +kernel
theorem b_identity : BindH d_identity := fun _ _ _ _ _ _ us hl => match us, hl with | [_, _], _ => rfl
theorem c_zero_matrix : chkD fs gs xs cs ks d_zero_matrix = true := by decide +kernel
theorem b_zero_matrix : BindH d_zero_matrix := fun _ _ _ _ _ _ us hl => match us, hl with | [_, _, _], _ => rfl
theorem c_plus : chkD fs gs xs cs ks d_plus = true := by decide +kernel
theorem b_plus : BindH d_plus := fun _ _ _ _ _ _ us hl => match us, hl with | [_, _, _], _ => rfl
theorem c_dot : chkD fs gs xs cs ks d_dot = true := by decide +kernel
theorem b_dot : BindH d_dot := fun _ _ _ _ _ _ us hl => match us, hl with | [_, _, _], _ => rfl
theorem c_times : chkD fs gs xs cs ks d_times = true := by decide +kernel
theorem b_times : BindH d_times := fun _ _ _ _ _ _ us hl => match us, hl with | [_, _, _], _ => rfl
theorem c_scaled : chkD fs gs xs cs ks d_scaled = true := by decide +kernel
theorem b_scaled : BindH d_scaled := fun _ _ _ _ _ _ us hl => match us, hl with | [_, _, _], _ => rfl
theorem c_transposed : chkD fs gs xs cs ks d_transposed = true := by decide +kernel
theorem b_transposed : BindH d_transposed := fun _ _ _ _ _ _ us hl => match us, hl with | [_], _ => rfl
theorem c_may_change : chkD fs gs xs cs ks d_may_change = true := by decide +kernel
theorem b_may_change : BindH d_may_change := fun _ _ _ _ _ _ us hl => match us, hl with | [_, _], _ => rfl
theorem c_changed : chkD fs gs xs cs ks d_changed = true := by decide +kernel
theorem b_changed : BindH d_changed := fun _ _ _ _ _ _ us hl => match us, hl with | [_, _, _], _ => rfl
theorem c_change : chkD fs gs xs cs ks d_change = true := by decide +kernel
theorem b_change : BindH d_change := fun _ _ _ _ _ _ us hl => match us, hl with | [_, _, _], _ => rfl
theorem c_evaluated : chkD fs gs xs cs ks d_evaluated = true := by decide +kernel
theorem b_evaluated : BindH d_evaluated := fun _ _ _ _ _ _ us hl => match us, hl with | [_, _, _], _ => rfl
theorem c__law_start : chkD fs gs xs cs ks d__law_start = true := by decide +kernel
theorem b__law_start : BindH d__law_start := fun _ _ _ _ _ _ us hl => match us, hl with | [_], _ => rfl
theorem c__law_fill : chkD fs gs xs cs ks d__law_fill = true := by decide +kernel
theorem b__law_fill : BindH d__law_fill := fun _ _ _ _ _ _ us hl => match us, hl with | [_], _ => rfl
theorem c__law_take : chkD fs gs xs cs ks d__law_take = true := by decide +kernel
theorem b__law_take : BindH d__law_take := fun _ _ _ _ _ _ us hl => match us, hl with | [_, _], _ => rfl
theorem c__law_raised : chkD fs gs xs cs ks d__law_raised = true := by decide +kernel
theorem b__law_raised : BindH d__law_raised := fun _ _ _ _ _ _ us hl => match us, hl with | [_, _], _ => rfl
theorem c__law_common : chkD fs gs xs cs ks d__law_common = true := by decide +kernel
theorem b__law_common : BindH d__law_common := fun _ _ _ _ _ _ us hl => match us, hl with | [_, _], _ => rfl
theorem c__law_fraction : chkD fs gs xs cs ks d__law_fraction = true := by decide +kernel
theorem b__law_fraction : BindH d__law_fraction := fun _ _ _ _ _ _ us hl => match us, hl with | [_, _], _ => rfl
theorem c__law_zero : chkD fs gs xs cs ks d__law_zero = true := by decide +kernel
theorem b__law_zero : BindH d__law_zero := fun _ _ _ _ _ _ us hl => match us, hl with | [_], _ => rfl
theorem c__law_strip : chkD fs gs xs cs ks d__law_strip = true := by decide +kernel
theorem b__law_strip : BindH d__law_strip := fun _ _ _ _ _ _ us hl => match us, hl with | [_, _], _ => rfl
theorem c__law_number : chkD fs gs xs cs ks d__law_number = true := by decide +kernel
theorem b__law_number : BindH d__law_number := fun _ _ _ _ _ _ us hl => match us, hl with | [_, _], _ => rfl
theorem c__law_part : chkD fs gs xs cs ks d__law_part = true := by decide +kernel
theorem b__law_part : BindH d__law_part := fun _ _ _ _ _ _ us hl => match us, hl with | [_, _, _], _ => rfl
theorem c__law_add : chkD fs gs xs cs ks d__law_add = true := by decide +kernel
theorem b__law_add : BindH d__law_add := fun _ _ _ _ _ _ us hl => match us, hl with | [_, _, _], _ => rfl
theorem c__law_multiply : chkD fs gs xs cs ks d__law_multiply = true := by decide +kernel
theorem b__law_multiply : BindH d__law_multiply := fun _ _ _ _ _ _ us hl => match us, hl with | [_, _, _], _ => rfl
theorem c__law_subtract : chkD fs gs xs cs ks d__law_subtract = true := by decide +kernel
theorem b__law_subtract : BindH d__law_subtract := fun _ _ _ _ _ _ us hl => match us, hl with | [_, _, _], _ => rfl
theorem c__law_power : chkD fs gs xs cs ks d__law_power = true := by decide +kernel
theorem b__law_power : BindH d__law_power := fun _ _ _ _ _ _ us hl => match us, hl with | [_, _, _], _ => rfl
theorem c__law_inverse : chkD fs gs xs cs ks d__law_inverse = true := by decide +kernel
theorem b__law_inverse : BindH d__law_inverse := fun _ _ _ _ _ _ us hl => match us, hl with | [_, _], _ => rfl
theorem c__law_some_prime : chkD fs gs xs cs ks d__law_some_prime = true := by decide +kernel
theorem b__law_some_prime : BindH d__law_some_prime := fun _ _ _ _ _ _ us hl => match us, hl with | [_], _ => rfl
theorem c__law_field : chkD fs gs xs cs ks d__law_field = true := by decide +kernel
theorem b__law_field : BindH d__law_field := fun _ _ _ _ _ _ us hl => match us, hl with | [_], _ => rfl
theorem c__law_domain : chkD fs gs xs cs ks d__law_domain = true := by decide +kernel
theorem b__law_domain : BindH d__law_domain := fun _ _ _ _ _ _ us hl => match us, hl with | [_], _ => rfl
theorem c__law_integer : chkD fs gs xs cs ks d__law_integer = true := by decide +kernel
theorem b__law_integer : BindH d__law_integer := fun _ _ _ _ _ _ us hl => match us, hl with | [_], _ => rfl
theorem c__law_element : chkD fs gs xs cs ks d__law_element = true := by decide +kernel
theorem b__law_element : BindH d__law_element := fun _ _ _ _ _ _ us hl => match us, hl with | [_, _], _ => rfl
theorem c__law_small : chkD fs gs xs cs ks d__law_small = true := by decide +kernel
theorem b__law_small : BindH d__law_small := fun _ _ _ _ _ _ us hl => match us, hl with | [_, _], _ => rfl
theorem c__law_matrix : chkD fs gs xs cs ks d__law_matrix = true := by decide +kernel
theorem b__law_matrix : BindH d__law_matrix := fun _ _ _ _ _ _ us hl => match us, hl with | [_, _, _, _], _ => rfl
theorem c__law_dot : chkD fs gs xs cs ks d__law_dot = true := by decide +kernel
theorem b__law_dot : BindH d__law_dot := fun _ _ _ _ _ _ us hl => match us, hl with | [_, _, _], _ => rfl
theorem c__law_column : chkD fs gs xs cs ks d__law_column = true := by decide +kernel
theorem b__law_column : BindH d__law_column := fun _ _ _ _ _ _ us hl => match us, hl with | [_, _], _ => rfl
theorem c__law_product : chkD fs gs xs cs ks d__law_product = true := by decide +kernel
theorem b__law_product : BindH d__law_product := fun _ _ _ _ _ _ us hl => match us, hl with | [_, _, _], _ => rfl
theorem c__law_identity : chkD fs gs xs cs ks d__law_identity = true := by decide +kernel
theorem b__law_identity : BindH d__law_identity := fun _ _ _ _ _ _ us hl => match us, hl with | [_, _], _ => rfl
theorem c__law_shape : chkD fs gs xs cs ks d__law_shape = true := by decide +kernel
theorem b__law_shape : BindH d__law_shape := fun _ _ _ _ _ _ us hl => match us, hl with | [_], _ => rfl
theorem c__law_changed : chkD fs gs xs cs ks d__law_changed = true := by decide +kernel
theorem b__law_changed : BindH d__law_changed := fun _ _ _ _ _ _ us hl => match us, hl with | [_, _, _], _ => rfl
theorem c__law_told : chkD fs gs xs cs ks d__law_told = true := by decide +kernel
theorem b__law_told : BindH d__law_told := fun _ _ _ _ _ _ us hl => match us, hl with | [_, _, _], _ => rfl
theorem c__law_same : chkD fs gs xs cs ks d__law_same = true := by decide +kernel
theorem b__law_same : BindH d__law_same := fun _ _ _ _ _ _ us hl => match us, hl with | [_, _], _ => rfl
theorem c__law_part_a : chkD fs gs xs cs ks d__law_part_a = true := by decide +kernel
theorem b__law_part_a : BindH d__law_part_a := fun _ _ _ _ _ _ us hl => match us, hl with | [_], _ => rfl
theorem c__law_part_b : chkD fs gs xs cs ks d__law_part_b = true := by decide +kernel
theorem b__law_part_b : BindH d__law_part_b := fun _ _ _ _ _ _ us hl => match us, hl with | [_], _ => rfl
theorem c_law : chkD fs gs xs cs ks d_law = true := by decide +kernel
theorem b_law : BindH d_law := fun _ _ _ _ _ _ us hl => match us, hl with | [_], _ => rfl
theorem fs_ok : ∀ f ∈ fs, ∃ d ∈ ds, d.x = f ∧ d.cls = none := fun f hf => by
  obtain ⟨d, hd, rfl⟩ := List.mem_map.mp hf
  obtain ⟨hd, hn⟩ := List.mem_filter.mp hd
  exact ⟨d, hd, rfl, by simpa using hn⟩
inductive CkAll : List Df → Prop where
  | nil : CkAll []
  | cons {d : Df} {l : List Df} : pg.fn d.x = some d.F → chkD fs gs xs cs ks d = true → BindH d → CkAll l → CkAll (d :: l)
theorem CkAll.app {a b : List Df} (h : CkAll a) (k : CkAll b) : CkAll (a ++ b) := by
  induction h with
  | nil => exact k
  | cons x y z _ ih => exact .cons x y z ih
theorem CkAll.b {l : List Df} (h : CkAll l) : BindAll l := by
  induction h with
  | nil => exact .nil
  | cons x y z _ ih => exact .cons z ih
theorem CkAll.f {l : List Df} (h : CkAll l) : ∀ d ∈ l, pg.fn d.x = some d.F ∧ chkD fs gs xs cs ks d = true := by
  induction h with
  | nil => intro d hd; cases hd
  | cons x y z _ ih =>
    intro d hd
    rcases List.mem_cons.mp hd with e | hd
    · subst e; exact ⟨x, y⟩
    · exact ih d hd
theorem ck0 : CkAll ds0 := (.cons rfl c_common b_common (.cons rfl c_divisor b_divisor (.cons rfl c_is_prime b_is_prime (.cons rfl c_fraction b_fraction (.cons rfl c_is_integer b_is_integer (.cons rfl c_is_domain b_is_domain (.cons rfl c_is_field b_is_field (.cons rfl c_need_domain b_need_domain (.cons rfl c_need_field b_need_field (.cons rfl c_zero b_zero (.cons rfl c_one b_one (.cons rfl c_from_integer b_from_integer (.cons rfl c_trimmed b_trimmed (.cons rfl c_add b_add (.cons rfl c_multiply b_multiply (.cons rfl c_inverse b_inverse (.cons rfl c_quotient b_quotient (.cons rfl c_need_shape b_need_shape (.cons rfl c_need_square b_need_square (.cons rfl c_identity b_identity (.cons rfl c_zero_matrix b_zero_matrix (.cons rfl c_plus b_plus (.cons rfl c_dot b_dot (.cons rfl c_times b_times (.cons rfl c_scaled b_scaled (.cons rfl c_transposed b_transposed (.cons rfl c_may_change b_may_change (.cons rfl c_changed b_changed (.cons rfl c_change b_change (.cons rfl c_evaluated b_evaluated .nil))))))))))))))))))))))))))))))
theorem ck1 : CkAll ds1 := (.cons rfl c__law_start b__law_start (.cons rfl c__law_fill b__law_fill (.cons rfl c__law_take b__law_take (.cons rfl c__law_raised b__law_raised (.cons rfl c__law_common b__law_common (.cons rfl c__law_fraction b__law_fraction (.cons rfl c__law_zero b__law_zero (.cons rfl c__law_strip b__law_strip (.cons rfl c__law_number b__law_number (.cons rfl c__law_part b__law_part (.cons rfl c__law_add b__law_add (.cons rfl c__law_multiply b__law_multiply (.cons rfl c__law_subtract b__law_subtract (.cons rfl c__law_power b__law_power (.cons rfl c__law_inverse b__law_inverse (.cons rfl c__law_some_prime b__law_some_prime (.cons rfl c__law_field b__law_field (.cons rfl c__law_domain b__law_domain (.cons rfl c__law_integer b__law_integer (.cons rfl c__law_element b__law_element (.cons rfl c__law_small b__law_small (.cons rfl c__law_matrix b__law_matrix (.cons rfl c__law_dot b__law_dot (.cons rfl c__law_column b__law_column (.cons rfl c__law_product b__law_product (.cons rfl c__law_identity b__law_identity (.cons rfl c__law_shape b__law_shape (.cons rfl c__law_changed b__law_changed (.cons rfl c__law_told b__law_told (.cons rfl c__law_same b__law_same .nil))))))))))))))))))))))))))))))
theorem ck2 : CkAll ds2 := (.cons rfl c__law_part_a b__law_part_a (.cons rfl c__law_part_b b__law_part_b (.cons rfl c_law b_law .nil)))
theorem ck : CkAll ds := ((ck0).app ck1).app ck2
theorem fa_eq : fa = So.faL ds xs exs gi cl := rfl
theorem fn_eq : fn = So.fnL ds := rfl
def level : Nat := 40
theorem cl_ok : So.clOk ds cl = true := by decide +kernel
theorem facts {P : Program} {w : World} {K : PySem.W.Frag} {h : Heap} {mg : Str → Option Value} {f : Addr} (X : K.In h) (G : h.Ns mainGlobals mg) (hfa : mg ("law" : Str) = some (.ref f)) (c : He.SaysE fa fn K) (cq : qf K = true) :
    ∃ fd : FuncData, (∀ (s : Shared) (v : Value), BindsTo s fd ⟨[v], []⟩ [("script", v)]) ∧ ∀ base : Heap, K.In base → base.Ns mainGlobals mg → FnOk P w K mg base (L2.CX P w) (2 * level) f fd ["script"] (spC K (cvOf K) (Lg.callF pg (So.subQ exs iq) level "law")) := by
  have M : Md K mg (cvOf K) pg (So.subQ exs iq) ds fs gs xs cs ks := md_of X G (by rw [fa_eq, fn_eq] at c; exact c) cl_ok (fun x => rfl) fs_ok (fun d hd => (ck.f d hd).1) (fun d hd => (ck.f d hd).2) ck.b (fun x => rfl) (Bool.and_eq_true_iff.mp (show (So.qAll iq K && So.cAll cs K) = true from cq)).1 (Bool.and_eq_true_iff.mp (show (So.qAll iq K && So.cAll cs K) = true from cq)).2 (by decide) (by decide)
  have hd : d_law ∈ ds := by simp [ds, ds0, ds1, ds2]
  obtain ⟨fd, F, _⟩ := M.hmg d_law hd
  obtain ⟨d1, hd1, e1, m, ea, _⟩ := M.hfs "law" (List.mem_map.mpr ⟨d_law, List.mem_filter.mpr ⟨hd, rfl⟩, rfl⟩)
  have e := hfa.symm.trans m
  cases e
  refine ⟨fd, fun s v => ?_, fun base _ _ => all_ok M level d_law hd _ fd F⟩
  obtain ⟨oc, od, kV, doc, pm, an, cdv, ct, osl, rfl, lk, hcd⟩ := F.ex
  exact .of_eq (b_law kV doc pm an cdv ct [v] rfl)
end Rwk23
namespace Rwk23
theorem law_true (ns : List Int) (h1 : ns.length ≤ 63) (h2 : ∀ z ∈ ns, Lg.bits z ≤ 1048576) : ∃ st, Lg.callF pg (So.subQ exs iq) level "law" [.fro (ns.map .int)] [] = .ok (.bl true) st :=
  Lp.k23_law (P := pg) (sub := So.subQ exs iq) (k := 19) (by repeat' (first | exact rfl | constructor)) rfl h1
end Rwk23
open PySem PySem.W PySem.Calls PyProof.Rows
theorem PySem.Challenge.cw_longrank_k23_changes_of_domain_and_more_holds : PySem.Challenge.rw_longrank_k23_changes_of_domain_and_more.Holds := by
  refine Rwk23.fin ?_
  refine So.law_walk (l := PySem.Challenge.rw_longrank_k23_changes_of_domain_and_more) (k := 2 * Rwk23.level) rfl (by kernel_rfl) (by kernel_rfl) ⟨rfl, by decide, by decide⟩ (fun w K mg f h X G hm c cq => Rwk23.facts X G hm c cq) (fun K H a ns h1 h2 hS => ?_)
  obtain ⟨st, e⟩ := Rwk23.law_true ns h1 h2
  exact So.law_sp hS e
