import PyProof.Rows.All
import Wide.All
import OpenK.AllK
import Wide.FinOn
import KE.KStateDown
import HandS.ForMost
import HandS.ForExc
import HandS.Wide
import HandS.Style
import HandS.Flow
import HandS.Zip
import HandS.Rev
import HandS.IsInst
import HandS.Deep
import HandS.TupAny
import KE.KDictKeyed
import KE.KDictLaw
import HandS.SetKeys
import HandS.Comp
import HandS.Exc
import HandS.ExcOwn
import HandS.ExcInit
import HandS.TryOnly
import HandS.Iter
import HandS.Text
import HandS.RaiseMore
import HandS.More
import HandS.CallRecv
import KE.KDictDisplayH
import KE.SortData
import HandS.SetTxt0
import HandS.SetFor
import HandS.Strs
import KE.KRevIter
import HandS.RevTup
import HandS.Defaults
import HandS.Head0
import HandS.Head1
import HandS.Head2
import HandS.HeadEnd
import HandS.HeadHook1
import HandS.HeadHook2
import HandS.HeadHook4
import HandS.EndBits
import PySem.Challenge.RW_quoteweave_k21_needs_of_one
set_option Elab.async false
set_option linter.all false
set_option maxRecDepth 100000
set_option maxHeartbeats 0
/-! VIa: an evaluator for a part of Python, over plain data. D: data (trees that never change; `ref n`: the object n of a store).
IE, IS: expressions, statements. ev, exec, run: what they give. Plain Lean, no program in sight. -/
namespace VI

/-- a text by its code points -/
abbrev Tx := List Nat
def S (s : String) : Tx := s.toList.map Char.toNat

inductive D where
  | non | bl (b : Bool) | int (i : Int) | str (x : Tx)
  | tup (xs : List D) | lst (xs : List D) | dct (t : Nat) (kvs : List (D × D))
  | ref (n : Nat)
  | exn (c : String) (p : D)
  deriving Repr, Inhabited
mutual
def D.beq : D → D → Bool
  | .non, .non => true
  | .bl a, .bl b => decide (a = b)
  | .int a, .int b => decide (a = b)
  | .str a, .str b => decide (a = b)
  | .tup a, .tup b => D.beqL a b
  | .lst a, .lst b => D.beqL a b
  | .dct t a, .dct u b => decide (t = u) && D.beqP a b
  | .ref a, .ref b => decide (a = b)
  | .exn c a, .exn d b => decide (c = d) && D.beq a b
  | _, _ => false
def D.beqL : List D → List D → Bool
  | [], [] => true
  | a :: r, b :: s => D.beq a b && D.beqL r s
  | _, _ => false
def D.beqP : List (D × D) → List (D × D) → Bool
  | [], [] => true
  | (a, x) :: r, (b, y) :: s => D.beq a b && D.beq x y && D.beqP r s
  | _, _ => false
end
mutual
theorem D.beq_iff : ∀ (a b : D), D.beq a b = true ↔ a = b
  | .non, b => by cases b <;> simp [D.beq]
  | .bl a, b => by cases b <;> simp [D.beq]
  | .int a, b => by cases b <;> simp [D.beq]
  | .str a, b => by cases b <;> simp [D.beq]
  | .ref a, b => by cases b <;> simp [D.beq]
  | .tup a, b => by cases b <;> simp [D.beq, D.beqL_iff a]
  | .lst a, b => by cases b <;> simp [D.beq, D.beqL_iff a]
  | .dct t a, b => by cases b <;> simp [D.beq, D.beqP_iff a]
  | .exn c a, b => by cases b <;> simp [D.beq, D.beq_iff a]
theorem D.beqL_iff : ∀ (a b : List D), D.beqL a b = true ↔ a = b
  | [], b => by cases b <;> simp [D.beqL]
  | a :: r, b => by cases b <;> simp [D.beqL, D.beq_iff a, D.beqL_iff r]
theorem D.beqP_iff : ∀ (a b : List (D × D)), D.beqP a b = true ↔ a = b
  | [], b => by cases b <;> simp [D.beqP]
  | (a, x) :: r, b => by
    match b with
    | [] => simp [D.beqP]
    | (c, y) :: s => simp [D.beqP, D.beq_iff a, D.beq_iff x, D.beqP_iff r, and_assoc]
end
instance : DecidableEq D := fun a b => if h : D.beq a b = true then isTrue ((D.beq_iff a b).mp h) else isFalse fun e => h ((D.beq_iff a b).mpr e)

/-- an object that may change: a list, a dict, an instance of the class c -/
inductive MO where
  | lst (xs : List D) | dct (t : Nat) (kvs : List (D × D)) | ins (c : String) (fs : List (String × D))
  deriving DecidableEq, Repr, Inhabited
abbrev Store := List MO

/-- an exception on its way: its class, its place -/
structure Ex where
  c : String
  p : D
  deriving DecidableEq, Repr, Inhabited
inductive R (α : Type) where
  | ok (a : α) (U : Store) | ex (x : Ex) (U : Store)
  deriving Repr
/-- none: no rule, or no end -/
abbrev M (α : Type) := Store → Option (R α)
def bnd {α β : Type} (r : Option (R α)) (f : α → M β) : Option (R β) :=
  match r with
  | some (.ok a U) => f a U
  | some (.ex x U) => some (.ex x U)
  | none => none
@[simp] theorem bnd_ok {α β : Type} (a : α) (U : Store) (f : α → M β) : bnd (some (.ok a U)) f = f a U := rfl
@[simp] theorem bnd_ex {α β : Type} (x : Ex) (U : Store) (f : α → M β) : bnd (some (.ex x U)) f = some (.ex x U) := rfl
@[simp] theorem bnd_none {α β : Type} (f : α → M β) : bnd none f = none := rfl
def ret {α : Type} (a : α) : M α := fun U => some (.ok a U)
@[simp] theorem ret_eq {α : Type} (a : α) (U : Store) : ret a U = some (.ok a U) := rfl

/-- the longest list or text -/
def SZ : Nat := 16777216

/-! ### places in the store -/
def asL (U : Store) : D → Option (List D)
  | .lst xs => some xs
  | .ref n => (match U[n]? with | some (.lst xs) => some xs | _ => none)
  | _ => none
/-- a list or a tuple -/
def asQ (U : Store) : D → Option (List D)
  | .tup xs => some xs
  | d => asL U d
/-- a dict: what sort of keys it has, its pairs -/
def asD (U : Store) : D → Option (Nat × List (D × D))
  | .dct t kvs => some (t, kvs)
  | .ref n => (match U[n]? with | some (.dct t kvs) => some (t, kvs) | _ => none)
  | _ => none
def mkL (m : Bool) (xs : List D) : M D := fun U => if m then some (.ok (.ref U.length) (U ++ [.lst xs])) else some (.ok (.lst xs) U)
def mkD (m : Bool) (t : Nat) (kvs : List (D × D)) : M D := fun U => if m then some (.ok (.ref U.length) (U ++ [.dct t kvs])) else some (.ok (.dct t kvs) U)

/-! ### the tree behind a datum; objects from n₀ on are taken, others stand as they are -/
mutual
def rsv (U : Store) (n₀ : Nat) (sub : D → Option D) : D → Option D
  | .tup xs => (rsvL U n₀ sub xs).map .tup
  | .lst xs => (rsvL U n₀ sub xs).map .lst
  | .dct t kvs => (rsvP U n₀ sub kvs).map (.dct t)
  | .ref n => sub (.ref n)
  | d => some d
def rsvL (U : Store) (n₀ : Nat) (sub : D → Option D) : List D → Option (List D)
  | [] => some []
  | x :: r => (match rsv U n₀ sub x, rsvL U n₀ sub r with | some y, some s => some (y :: s) | _, _ => none)
def rsvP (U : Store) (n₀ : Nat) (sub : D → Option D) : List (D × D) → Option (List (D × D))
  | [] => some []
  | (k, x) :: r => (match rsv U n₀ sub k, rsv U n₀ sub x, rsvP U n₀ sub r with | some j, some y, some s => some ((j, y) :: s) | _, _, _ => none)
end
def subAt (U : Store) (n₀ : Nat) : Nat → D → Option D
  | 0, _ => none
  | f + 1, .ref n => if n < n₀ then some (.ref n) else (match U[n]? with
    | some (.lst xs) => (rsvL U n₀ (subAt U n₀ f) xs).map .lst
    | some (.dct t kvs) => (rsvP U n₀ (subAt U n₀ f) kvs).map (.dct t)
    | _ => none)
  | _, _ => none
def rs (U : Store) (n₀ : Nat) (d : D) : Option D := rsv U n₀ (subAt U n₀ 8) d
def snap (U : Store) (d : D) : Option D := rs U 0 d

/-! ### equality and order of trees, as Python has them -/
mutual
def pyeq : D → D → Bool
  | .tup a, .tup b => pyeqL a b
  | .lst a, .lst b => pyeqL a b
  | .bl a, .int j => decide ((if a then 1 else 0 : Int) = j)
  | .int i, .bl b => decide (i = (if b then 1 else 0 : Int))
  | .non, .non => true
  | .bl a, .bl b => decide (a = b)
  | .int a, .int b => decide (a = b)
  | .str a, .str b => decide (a = b)
  | _, _ => false
def pyeqL : List D → List D → Bool
  | [], [] => true
  | a :: r, b :: s => pyeq a b && pyeqL r s
  | _, _ => false
end
mutual
/-- None, bools, ints, texts, lists and tuples of these, at most n deep -/
def plain : D → Nat → Bool
  | .tup _, 0 => false
  | .lst _, 0 => false
  | .tup xs, n + 1 => plainL xs n
  | .lst xs, n + 1 => plainL xs n
  | .str x, _ => x.all fun c => decide (c < 1114112)
  | .dct _ _, _ => false
  | .ref _, _ => false
  | .exn _ _, _ => false
  | _, _ => true
def plainL : List D → Nat → Bool
  | [], _ => true
  | x :: r, n => plain x n && plainL r n
end
/-- two data without parts, not a bool beside an int -/
def scalS : D → D → Bool
  | .non, .non => true
  | .non, .int _ => true
  | .int _, .non => true
  | .non, .bl _ => true
  | .bl _, .non => true
  | .non, .str _ => true
  | .str _, .non => true
  | .int _, .int _ => true
  | .bl _, .bl _ => true
  | .str _, .str _ => true
  | .int _, .str _ => true
  | .str _, .int _ => true
  | .bl _, .str _ => true
  | .str _, .bl _ => true
  | _, _ => false
/-- == of two data -/
def eqv (U : Store) (a b : D) : Option Bool :=
  if scalS a b then some (pyeq a b) else
  match snap U a, snap U b with
  | some x, some y => if plain x 40 && plain y 40 then some (pyeq x y) else none
  | _, _ => none
def flat : D → Bool
  | .non => true
  | .bl _ => true
  | .int _ => true
  | .str _ => true
  | _ => false
def snapL (U : Store) : List D → Option (List D)
  | [] => some []
  | x :: r => (match snap U x, snapL U r with | some y, some s => some (y :: s) | _, _ => none)
/-- a and the items of a list (or tuple) d as trees; of a tuple flat ones alone -/
def snaps (U : Store) (a d : D) (xs : List D) : Option (D × List D) :=
  if flat a && xs.all flat then some (a, xs) else
  match asL U d, snap U a, snapL U xs with
  | some _, some x, some ys => if plain x 40 && plainL ys 39 then some (x, ys) else none
  | _, _, _ => none
def inL (U : Store) (a d : D) (xs : List D) : Option Bool :=
  match snaps U a d xs with
  | some (x, ys) => some (ys.any fun y => pyeq y x)
  | none => none
/-- the first place of a in a list -/
def ixOf (U : Store) (a d : D) (xs : List D) : Option Nat :=
  match snaps U a d xs with
  | some (x, ys) => ys.findIdx? fun y => pyeq y x
  | none => none
mutual
/-- a < b, for data of one shape -/
def pylt : D → D → Option Bool
  | .int a, .int b => some (decide (a < b))
  | .str a, .str b => some (decide (a < b))
  | .tup a, .tup b => pyltL a b
  | .lst a, .lst b => pyltL a b
  | _, _ => none
def pyltL : List D → List D → Option Bool
  | [], [] => some false
  | [], _ :: _ => some true
  | _ :: _, [] => some false
  | a :: r, b :: s => if pyeq a b then pyltL r s else pylt a b
end
/-- what sort of key: an int or a text, a tuple of such, a tuple of such tuples -/
def flatK : D → Bool
  | .int _ => true
  | .str _ => true
  | _ => false
def tupK : D → Bool
  | .tup xs => xs.all flatK
  | _ => false
def pairK : D → Bool
  | .tup [a, b] => tupK a && tupK b
  | _ => false
/-- a key of a dict of the sort t: 0 ints and texts, 1 tuples -/
def keyFor (t : Nat) (k : D) : Bool :=
  match t with
  | 0 => flatK k
  | 1 => tupK k || pairK k
  | _ => false
def lookD (kvs : List (D × D)) (k : D) : Option D :=
  match kvs with
  | [] => none
  | (j, x) :: r => if j = k then some x else lookD r k
def putD (kvs : List (D × D)) (k v : D) : List (D × D) :=
  match kvs with
  | [] => [(k, v)]
  | (j, x) :: r => if j = k then (j, v) :: r else (j, x) :: putD r k v
def dropD (kvs : List (D × D)) (k : D) : List (D × D) :=
  match kvs with
  | [] => []
  | (j, x) :: r => if j = k then r else (j, x) :: dropD r k

/-! ### indices, slices -/
def sIx (n d : Nat) : Option Int → Nat
  | none => d
  | some v => if v < 0 then (v + (n : Int)).toNat else min v.toNat n
def cut {α : Type} (xs : List α) (lo hi : Option Int) : List α := (xs.drop (sIx xs.length 0 lo)).take (sIx xs.length xs.length hi - sIx xs.length 0 lo)
def ixN (n : Nat) (i : Int) : Option Nat := if 0 ≤ i then (if i < n then some i.toNat else none) else if -(n : Int) ≤ i then some (i + n).toNat else none
def atI {α : Type} (xs : List α) (i : Int) : Option α := (ixN xs.length i).bind fun j => xs[j]?

/-! ### texts -/
/-- split at a sign -/
def splitC (c : Nat) : Tx → List Tx
  | [] => [[]]
  | x :: r => if x = c then [] :: splitC c r else (match splitC c r with
    | [] => [[x]]
    | w :: ws => (x :: w) :: ws)
def joinT (sep : Tx) : List Tx → Tx
  | [] => []
  | [x] => x
  | x :: y :: r => x ++ (sep ++ joinT sep (y :: r))
def isPre : Tx → Tx → Bool
  | [], _ => true
  | _ :: _, [] => false
  | a :: r, b :: s => decide (a = b) && isPre r s
def showI (i : Int) : Tx := (toString i).toList.map Char.toNat
/-- the number that a text of figures writes -/
def readN (x : Tx) : Nat := x.foldl (fun n c => n * 10 + (c - 48)) 0
def isFig (c : Nat) : Bool := 48 ≤ c && c ≤ 57
/-- signs from the blank to ~ -/
def isSign (c : Nat) : Bool := 32 ≤ c && c ≤ 126
def rstripT (x : Tx) : Tx := (x.reverse.dropWhile fun c => decide (c = 32)).reverse
def findC (c : Nat) : Tx → Nat → Int
  | [], _ => -1
  | x :: r, i => if x = c then (i : Int) else findC c r (i + 1)
/-- all are texts -/
def texts : List D → Option (List Tx)
  | [] => some []
  | .str x :: r => (match texts r with | some s => some (x :: s) | none => none)
  | _ :: _ => none

/-! ### the syntax -/
inductive BOp | add | sub | mul | fdiv | mod | pow
  deriving DecidableEq, Repr
inductive COp | eq | ne | lt | le | gt | ge | isIn | notIn | is | isNot
  deriving DecidableEq, Repr
/-- functions and methods that the language gives; the receiver is the first argument. m: the list made may change -/
inductive P where
  | len | str1 | int1 | abs | max2 | min2
  | list1 | listRange | tuple1 | dict1 | sorted1 | sortedSet | lenSet | any1 | all1 | divmod2
  | join | split | startswith | rstrip | find | index | count | isdigit
  | get1 | get2 | repr1 | rev1 | listRev
  | append | extend | insert | pop0 | pop1 | popD | clear | reverse | setdefault
  deriving DecidableEq, Repr
/-- a target: a name, or names -/
inductive Tg where
  | var (i : Nat) | tup (ts : List Nat) | tup2 (a : Nat) (bs : List Nat)
  deriving DecidableEq, Repr
mutual
inductive IE where
  | cst (d : D)
  | glo (x : String) (d : D)
  | var (i : Nat)
  | bin (op : BOp) (m : Bool) (a b : IE)
  | neg (a : IE)
  | cmp (op : COp) (a b : IE)
  | cmp2 (op1 op2 : COp) (a b c : IE)
  | andE (a b : IE)
  | orE (a b : IE)
  | notE (a : IE)
  | ite (t a b : IE)
  | tup (es : IEs)
  | lst (m : Bool) (es : IEs)
  | dnil (m : Bool) (t : Nat)
  | done (m : Bool) (t : Nat) (k v : IE)
  | repL (m : Bool) (es : IEs) (k : IE)
  | idx (a i : IE)
  | slc (m : Bool) (a lo hi : IE)
  | fld (a : IE) (f : String)
  | call (fz : Bool) (f : String) (es : IEs)
  | meth (fz : Bool) (c f : String) (a : IE) (es : IEs)
  | make (c : String) (es : IEs)
  | prim (p : P) (m : Bool) (es : IEs)
  | lc (m : Bool) (own : List Nat) (tg : Tg) (it : It) (cond : IE) (el : IE)
  | isin (a : IE) (cs : List String)
  | sortK (m : Bool) (a : IE) (caps : List Nat) (key : IE)
  | minK (a : IE) (caps : List Nat) (key : IE)
inductive IEs where
  | nil | cons (e : IE) (r : IEs)
inductive It where
  | seq (e : IE)
  | range1 (a : IE) | range2 (a b : IE) | range3 (a b : IE) (c : Int)
  | enum (e : IE) (k : Int)
  | zip (a b : IE)
  | rev (e : IE)
  | keys (i : Nat)
end
mutual
inductive IS where
  | asg (tg : Tg) (e : IE)
  | asgI (o i e : IE)
  | asgF (o : IE) (f : String) (e : IE)
  | asgIV (o i : IE) (v : Nat) (e : IE)
  | aug (i : Nat) (op : BOp) (e : IE)
  | expr (e : IE)
  | ret (e : IE)
  | retN
  | ifS (t : IE) (a b : ISs)
  | forS (tg : Tg) (it : It) (b : ISs)
  | whileS (t : IE) (b : ISs)
  | brk
  | pass
  | raise (c : String) (w p : IE)
  | tryS (b : ISs) (c : String) (i : Option Nat) (h : ISs)
  | never
inductive ISs where
  | nil | cons (s : IS) (r : ISs)
end
/-- a comprehension without a test -/
def yes : IE := .cst (.bl true)
structure Fn where
  np : Nat
  ns : Nat
  body : ISs
abbrev Tab := String → Option Fn

/-! ### operators -/
/-- bits of a whole number -/
def bits (i : Int) : Nat := if i = 0 then 0 else i.natAbs.log2 + 1
def mulOk (i j : Int) : Bool := decide (bits i ≤ 64) || decide (bits j ≤ 64) || decide (bits i + bits j ≤ 100000000)
def divOk (j : Int) : Bool := decide (0 < j) && decide (j.natAbs.log2 < 9000)
def addOp (m : Bool) (a b : D) : M D := fun U =>
  match a, b with
  | .int i, .int j => some (.ok (.int (i + j)) U)
  | .str x, .str y => if x.length + y.length ≤ SZ then some (.ok (.str (x ++ y)) U) else none
  | .tup x, .tup y => if x.length + y.length ≤ SZ then some (.ok (.tup (x ++ y)) U) else none
  | x, y => (match asL U x, asL U y with
    | some xs, some ys => if xs.length + ys.length ≤ SZ then mkL m (xs ++ ys) U else none
    | _, _ => none)
def mulOp (_ : Bool) (a b : D) : M D := fun U =>
  match a, b with
  | .int i, .int j => if mulOk i j then some (.ok (.int (i * j)) U) else none
  | .str x, .int k => if -1000000 ≤ k ∧ k ≤ 1000000 ∧ x.length * k.toNat ≤ SZ then some (.ok (.str (List.replicate k.toNat x).flatten) U) else none
  | _, _ => none
def binop (op : BOp) (m : Bool) (a b : D) : M D := fun U =>
  match op with
  | .add => addOp m a b U
  | .sub => (match a, b with | .int i, .int j => some (.ok (.int (i - j)) U) | _, _ => none)
  | .mul => mulOp m a b U
  | .fdiv => (match a, b with | .int i, .int j => if divOk j then some (.ok (.int (i / j)) U) else none | _, _ => none)
  | .mod => (match a, b with | .int i, .int j => if 0 < j then some (.ok (.int (i % j)) U) else none | _, _ => none)
  | .pow => (match a, b with | .int i, .int j => if 0 ≤ j ∧ j ≤ 1000 ∧ i.natAbs < 18446744073709551616 then some (.ok (.int (i ^ j.toNat)) U) else none | _, _ => none)
def hasD (U : Store) (k d : D) : Option Bool :=
  match asD U d with
  | some (t, kvs) => if keyFor t k then some (lookD kvs k).isSome else none
  | none => none
def member (U : Store) (a b : D) : Option Bool :=
  match a, b with
  | .str x, .str y => (match x with
    | [c] => some (decide (c ∈ y))
    | _ => none)
  | _, _ => (match asQ U b with
    | some xs => inL U a b xs
    | none => hasD U a b)
def cmpop (op : COp) (U : Store) (a b : D) : Option Bool :=
  match op with
  | .eq => eqv U a b
  | .ne => (eqv U a b).map (! ·)
  | .isIn => member U a b
  | .notIn => (member U a b).map (! ·)
  | .is => (match a, b with
    | x, .non => (match x with | .non => some true | _ => some false)
    | .bl x, .bl y => some (decide (x = y))
    | _, _ => none)
  | .isNot => (match a, b with
    | x, .non => (match x with | .non => some false | _ => some true)
    | .bl x, .bl y => some (!decide (x = y))
    | _, _ => none)
  | .lt => (match a, b with
    | .int i, .int j => some (decide (i < j))
    | .str x, .str y => some (decide (x < y))
    | _, _ => none)
  | .le => (match a, b with
    | .int i, .int j => some (decide (i ≤ j))
    | _, _ => none)
  | .gt => (match a, b with
    | .int i, .int j => some (decide (j < i))
    | _, _ => none)
  | .ge => (match a, b with
    | .int i, .int j => some (decide (j ≤ i))
    | _, _ => none)
def truth (U : Store) : D → Option Bool
  | .non => some false
  | .bl b => some b
  | .int i => some (decide (i ≠ 0))
  | .str x => if x.length ≤ SZ then some (!x.isEmpty) else none
  | .tup xs => some (!xs.isEmpty)
  | .lst xs => some (!xs.isEmpty)
  | .dct t kvs => if t = 0 then some (!kvs.isEmpty) else none
  | .ref n => (match U[n]? with
    | some (.lst xs) => some (!xs.isEmpty)
    | some (.dct t kvs) => if t = 0 then some (!kvs.isEmpty) else none
    | _ => none)
  | .exn _ _ => none
def tru (x : D) : M Bool := fun U => match truth U x with
  | some k => some (.ok k U)
  | none => none
/-- the classes of the errors: each, and those above it -/
def above (c : String) : List String := [c, "WorldError", "ValueError"]
/-- the built-in type of a datum -/
def tyN (U : Store) (d : D) : Option String :=
  match d with
  | .non => some "NoneType"
  | .bl _ => some "bool"
  | .int _ => some "int"
  | .str _ => some "str"
  | .tup _ => some "tuple"
  | .lst _ => some "list"
  | .dct t _ => if t = 0 then some "dict" else none
  | .ref n => (match U[n]? with
    | some (.lst _) => some "list"
    | some (.dct t _) => if t = 0 then some "dict" else none
    | _ => none)
  | .exn _ _ => none
def someTypes : List String := ["bool", "int", "str", "tuple", "list", "dict"]
def isInst1 (U : Store) (d : D) (c : String) : Option Bool :=
  match d with
  | .exn e _ => some ((above e).contains c)
  | d => (match tyN U d with
    | some t => if someTypes.contains c then some (t == c || (t == "bool" && c == "int")) else none
    | none => none)
def isInst (U : Store) (d : D) : List String → Option Bool
  | [] => some false
  | c :: r => (match isInst1 U d c with
    | some true => some true
    | some false => isInst U d r
    | none => none)

/-! ### sorting -/
def ltD (a b : D) : Bool := (pylt a b).getD false
mutual
/-- two data of one shape, that can be put in order -/
def alike : D → D → Bool
  | .int _, .int _ => true
  | .str _, .str _ => true
  | .tup a, .tup b => alikeT a b
  | .lst a, .lst b => alikeA a b
  | _, _ => false
def alikeT : List D → List D → Bool
  | [], [] => true
  | a :: r, b :: s => alike a b && alikeT r s
  | _, _ => false
def alikeA : List D → List D → Bool
  | [], _ => true
  | _, [] => true
  | a :: r, b :: s => alike a b && alikeA r s
end
/-- all are tuples with an item at least, or none is a tuple -/
def isT1 : D → Bool
  | .tup (_ :: _) => true
  | _ => false
def noTu : D → Bool
  | .tup _ => false
  | _ => true
def canSort (ks : List D) : Bool := (ks.all fun a => ks.all fun b => alike a b) && (ks.all isT1 || ks.all noTu)
/-- xs sorted by the keys ks (trees, one for each): stable, the least first -/
def sortBy (ks xs : List D) : Option (List D) :=
  if ks.length = xs.length ∧ canSort ks then some (((ks.zip xs).mergeSort fun p q => !ltD q.1 p.1).map (·.2)) else none
/-- texts, each once -/
def dedupT : List Tx → List Tx
  | [] => []
  | x :: r => if r.contains x then dedupT r else x :: dedupT r

/-! ### what the language gives -/
def updS (U : Store) (n : Nat) (o : MO) : Store := U.set n o
def intOf : D → Option Int
  | .int i => some i
  | _ => none
def rangeL (a b : Int) : List D := (List.range (b - a).toNat).map fun (k : Nat) => .int (a + (k : Int))
def pairsOf : List D → Option (List (D × D))
  | [] => some []
  | .tup [k, v] :: r => (match pairsOf r with | some s => if flatK k then some ((k, v) :: s) else none | none => none)
  | _ :: _ => none
def mergeD (acc : List (D × D)) : List (D × D) → List (D × D)
  | [] => acc
  | (k, v) :: r => mergeD (putD acc k v) r
def bools : List D → Option (List Bool)
  | [] => some []
  | .bl b :: r => (match bools r with | some s => some (b :: s) | none => none)
  | _ :: _ => none
def lenOf (d : D) : M D := fun U => match d with
  | .str x => if x.length ≤ SZ then some (.ok (.int x.length) U) else none
  | d => (match asQ U d with
    | some xs => some (.ok (.int xs.length) U)
    | none => (match asD U d with
      | some (t, kvs) => if t = 0 then some (.ok (.int kvs.length) U) else none
      | none => none))
def listOf (m : Bool) (d : D) : M D := fun U => match asQ U d with
  | some xs => mkL m xs U
  | none => (match asD U d with
    | some (t, kvs) => if t = 0 then mkL m (kvs.map (·.1)) U else none
    | none => none)
def prim (p : P) (m : Bool) (ds : List D) : M D := fun U =>
  match p, ds with
  | .len, [d] => lenOf d U
  | .str1, [.int i] => if bits i ≤ 1900 then some (.ok (.str (showI i)) U) else none
  | .str1, [.str x] => some (.ok (.str x) U)
  | .int1, [.int i] => some (.ok (.int i) U)
  | .int1, [.bl b] => some (.ok (.int (if b then 1 else 0)) U)
  | .int1, [.str x] => if x ≠ [] ∧ x.all isFig ∧ x.length ≤ 600 then some (.ok (.int (readN x)) U) else none
  | .abs, [.int i] => some (.ok (.int (if i < 0 then -i else i)) U)
  | .max2, [.int i, .int j] => some (.ok (.int (if j > i then j else i)) U)
  | .min2, [.int i, .int j] => some (.ok (.int (if j < i then j else i)) U)
  | .list1, [d] => listOf m d U
  | .listRange, [.int n] => if -1000000 ≤ n ∧ n ≤ 1000000 then mkL m (rangeL 0 n) U else none
  | .tuple1, [d] => (match asQ U d with
    | some xs => some (.ok (.tup xs) U)
    | none => none)
  | .dict1, [d] => (match asL U d with
    | some xs => (match pairsOf xs with
      | some kvs => mkD m 0 (mergeD [] kvs) U
      | none => none)
    | none => none)
  | .sorted1, [d] => (match asL U d with
    | some xs => (match snapL U xs with
      | some ks => if plainL ks 39 then (match sortBy ks xs with
        | some ys => mkL m ys U
        | none => none) else none
      | none => none)
    | none => none)
  | .sortedSet, [d] => (match asL U d with
    | some xs => (match texts xs with
      | some ts => if ts.length ≤ 4000 then (match sortBy ((dedupT ts).map .str) ((dedupT ts).map .str) with
        | some ys => mkL m ys U
        | none => none) else none
      | none => none)
    | none => none)
  | .lenSet, [d] => (match asL U d with
    | some xs => (match texts xs with
      | some ts => if ts.length ≤ 4000 then some (.ok (.int (dedupT ts).length) U) else none
      | none => none)
    | none => none)
  | .any1, [d] => (match asL U d with
    | some xs => (match bools xs with | some bs => some (.ok (.bl (bs.any id)) U) | none => none)
    | none => none)
  | .all1, [d] => (match asL U d with
    | some xs => (match bools xs with | some bs => some (.ok (.bl (bs.all id)) U) | none => none)
    | none => none)
  | .divmod2, [.int i, .int j] => if 0 < j ∧ j < 1073741824 then some (.ok (.tup [.int (i / j), .int (i % j)]) U) else none
  | .join, [.str sep, d] => (match asQ U d with
    | some xs => (match texts xs with
      | some ts => if (ts.map (·.length)).sum + ts.length * sep.length ≤ SZ then some (.ok (.str (joinT sep ts)) U) else none
      | none => none)
    | none => none)
  | .split, [.str x, .str [c]] => if x.length + 2 ≤ SZ ∧ c < 128 then mkL m ((splitC c x).map .str) U else none
  | .rev1, [d] => (match d with
    | .tup xs => some (.ok (.tup xs.reverse) U)
    | d => (match asL U d with
      | some xs => mkL m xs.reverse U
      | none => none))
  | .listRev, [d] => (match asL U d with
    | some xs => mkL m xs.reverse U
    | none => none)
  | .startswith, [.str x, .str y] => if y = [] then none else some (.ok (.bl (isPre y x)) U)
  | .rstrip, [.str x] => if x.all isSign ∧ x.length ≤ SZ then some (.ok (.str (rstripT x)) U) else none
  | .find, [.str x, .str [c]] => some (.ok (.int (findC c x 0)) U)
  | .index, [d, a] => (match asL U d with
    | some xs => (match ixOf U a d xs with
      | some i => some (.ok (.int i) U)
      | none => none)
    | none => none)
  | .count, [d, a] => (match asL U d with
    | some xs => (match bools xs, a with
      | some bs, .bl b => some (.ok (.int (bs.countP fun x => x == b)) U)
      | _, _ => none)
    | none => none)
  | .isdigit, [.str x] => if x.all (fun c => decide (c < 128)) then some (.ok (.bl (!x.isEmpty && x.all isFig)) U) else none
  | .get1, [d, k] => (match asD U d with
    | some (t, kvs) => if keyFor t k then some (.ok ((lookD kvs k).getD .non) U) else none
    | none => none)
  | .get2, [d, k, x] => (match asD U d with
    | some (t, kvs) => if keyFor t k then some (.ok ((lookD kvs k).getD x) U) else none
    | none => none)
  | .append, [.ref n, x] => (match U[n]? with
    | some (.lst xs) => if xs.length < SZ then some (.ok .non (updS U n (.lst (xs ++ [x])))) else none
    | _ => none)
  | .extend, [.ref n, d] => (match U[n]?, asQ U d with
    | some (.lst xs), some ys => if xs.length + ys.length ≤ SZ then some (.ok .non (updS U n (.lst (xs ++ ys)))) else none
    | _, _ => none)
  | .insert, [.ref n, .int i, x] => (match U[n]? with
    | some (.lst xs) => if 0 ≤ i ∧ i ≤ xs.length ∧ xs.length < SZ then some (.ok .non (updS U n (.lst (xs.take i.toNat ++ x :: xs.drop i.toNat)))) else none
    | _ => none)
  | .pop0, [.ref n] => (match U[n]? with
    | some (.lst xs) => (match xs.getLast? with
      | some x => some (.ok x (updS U n (.lst xs.dropLast)))
      | none => none)
    | _ => none)
  | .pop1, [.ref n, k] => (match U[n]? with
    | some (.lst xs) => (match k with
      | .int i => if 0 ≤ i ∧ i < xs.length then (match xs[i.toNat]? with
        | some x => some (.ok x (updS U n (.lst (xs.eraseIdx i.toNat))))
        | none => none) else none
      | _ => none)
    | _ => none)
  | .popD, [.ref n, k] => (match U[n]? with
    | some (.dct t kvs) => if keyFor t k then (match lookD kvs k with
      | some x => some (.ok x (updS U n (.dct t (dropD kvs k))))
      | none => none) else none
    | _ => none)
  | .clear, [.ref n] => (match U[n]? with
    | some (.lst _) => some (.ok .non (updS U n (.lst [])))
    | _ => none)
  | .reverse, [.ref n] => (match U[n]? with
    | some (.lst xs) => some (.ok .non (updS U n (.lst xs.reverse)))
    | _ => none)
  | .setdefault, [.ref n, k, x] => (match U[n]? with
    | some (.dct t kvs) => if keyFor t k then (match lookD kvs k with
      | some y => some (.ok y U)
      | none => if kvs.length < SZ then some (.ok x (updS U n (.dct t (putD kvs k x)))) else none) else none
    | _ => none)
  | _, _ => none
def index1 (o i : D) : M D := fun U =>
  match o, i with
  | .str x, .int i => if x.length ≤ SZ then (match atI x i with | some c => some (.ok (.str [c]) U) | none => none) else none
  | o, i => (match asQ U o with
    | some xs => (match i with
      | .int i => (match atI xs i with | some v => some (.ok v U) | none => none)
      | _ => none)
    | none => (match asD U o with
      | some (t, kvs) => if keyFor t i then (match lookD kvs i with | some v => some (.ok v U) | none => none) else none
      | none => none))
def bnd? : D → Option (Option Int)
  | .non => some none
  | .int i => some (some i)
  | _ => none
def sliceB (m : Bool) (o : D) (l h : Option Int) : M D := fun U => match o with
  | .str x => if x.length ≤ SZ then some (.ok (.str (cut x l h)) U) else none
  | .tup xs => some (.ok (.tup (cut xs l h)) U)
  | o => (match asL U o with
    | some xs => mkL m (cut xs l h) U
    | none => none)
def slice1 (m : Bool) (o lo hi : D) : M D := fun U =>
  match bnd? lo, bnd? hi with
  | some l, some h => sliceB m o l h U
  | _, _ => none
def putFld (f : String) (v : D) : List (String × D) → List (String × D)
  | [] => [(f, v)]
  | (g, x) :: r => if g = f then (g, v) :: r else (g, x) :: putFld f v r
def setIx (o i v : D) : M Unit := fun U =>
  match o with
  | .ref n => (match U[n]? with
    | some (.lst xs) => (match i with
      | .int k => (match ixN xs.length k with
        | some j => some (.ok () (updS U n (.lst (xs.set j v))))
        | none => none)
      | _ => none)
    | some (.dct t kvs) => if keyFor t i ∧ kvs.length < SZ then some (.ok () (updS U n (.dct t (putD kvs i v)))) else none
    | _ => none)
  | _ => none
def setFld (o : D) (f : String) (v : D) : M Unit := fun U =>
  match o with
  | .ref n => (match U[n]? with
    | some (.ins c fs) => if fs.length < 900 then some (.ok () (updS U n (.ins c (putFld f v fs)))) else none
    | _ => none)
  | _ => none
def getFld (o : D) (f : String) : M D := fun U =>
  match o with
  | .ref n => (match U[n]? with
    | some (.ins _ fs) => (match fs.lookup f with | some v => some (.ok v U) | none => none)
    | _ => none)
  | .exn _ p => if f = "place" then some (.ok p U) else none
  | _ => none

/-- what a method is asked of -/
def recvOk (p : P) (U : Store) (x : D) : Bool :=
  match p with
  | .join | .split | .startswith | .rstrip | .find | .isdigit => (match x with | .str _ => true | _ => false)
  | .index | .count | .append | .extend | .insert | .pop0 | .pop1 | .clear | .reverse => (asL U x).isSome
  | .get1 | .get2 | .setdefault | .popD => (asD U x).isSome
  | _ => true
/-! ### the evaluator -/
abbrev Rho := List (Option D)
/-- calls: a def's name, its arguments -/
abbrev Cal := String → List D → M D
def wipe (ρ : Rho) : List Nat → Rho
  | [] => ρ
  | v :: vs => (wipe ρ vs).set v none
def setAll (ρ : Rho) : List Nat → List D → Option Rho
  | [], [] => some ρ
  | i :: is, d :: ds => setAll (ρ.set i (some d)) is ds
  | _, _ => none
def asgT (U : Store) (tg : Tg) (d : D) (ρ : Rho) : Option Rho :=
  match tg with
  | .var i => some (ρ.set i (some d))
  | .tup is => (match asQ U d with
    | some ds => setAll ρ is ds
    | none => none)
  | .tup2 a bs => (match d with
    | .tup [x, y] => (match asQ U y with
      | some ds => setAll (ρ.set a (some x)) bs ds
      | none => none)
    | _ => none)
/-- what a call gives: where fz, everything that it made is taken as a tree and the store must be as it was -/
def frz (fz : Bool) (U : Store) (r : Option (R D)) : Option (R D) :=
  if fz then (match r with
    | some (.ok d V) => if V.take U.length = U then (match rs V U.length d with
      | some d' => some (.ok d' U)
      | none => none) else none
    | some (.ex x V) => if V.take U.length = U ∧ flat x.p then some (.ex x U) else none
    | none => none) else r
/-- what is walked: at each turn an item, by the store; behind the last whether that is the end -/
structure Src where
  get : List (Store → Option D)
  fin : Store → Bool
def fixS (xs : List D) : Src := ⟨xs.map fun x _ => some x, fun _ => true⟩
def liveS (n k : Nat) : Src := ⟨(List.range k).map fun i U => (match U[n]? with
  | some (.lst ys) => if ys.length = k then ys[i]? else none
  | _ => none), fun U => (match U[n]? with
  | some (.lst ys) => decide (ys.length = k)
  | _ => false)⟩
def srcOf (U : Store) (d : D) : Option Src :=
  match d with
  | .lst xs => some (fixS xs)
  | .tup xs => some (fixS xs)
  | .str x => some (fixS (x.map fun c => .str [c]))
  | .ref n => (match U[n]? with
    | some (.lst xs) => some (liveS n xs.length)
    | _ => none)
  | _ => none
/-- a list alone -/
def srcL (U : Store) (d : D) : Option Src :=
  match d with
  | .lst xs => some (fixS xs)
  | .ref n => (match U[n]? with
    | some (.lst xs) => some (liveS n xs.length)
    | _ => none)
  | _ => none
def enumS (k : Int) : Nat → List (Store → Option D) → List (Store → Option D)
  | _, [] => []
  | i, g :: r => (fun U => (g U).map fun x => .tup [.int (k + i), x]) :: enumS k (i + 1) r
def zipS : List (Store → Option D) → List (Store → Option D) → List (Store → Option D)
  | g :: r, h :: s => (fun U => (match g U, h U with | some x, some y => some (.tup [x, y]) | _, _ => none)) :: zipS r s
  | _, _ => []
/-- two tuples, or two lists -/
def zipOf (U : Store) (x y : D) : Option (Src × Src) :=
  match x, y with
  | .tup xs, .tup ys => some (fixS xs, fixS ys)
  | x, y => (match srcL U x, srcL U y with
    | some s, some t => some (s, t)
    | _, _ => none)
def small (i : Int) : Bool := decide (-1000000000 ≤ i) && decide (i ≤ 1000000000)
/-- nothing raised -/
def noEx {α : Type} (r : Option (R α)) : Option (R α) :=
  match r with
  | some (.ok a U) => some (.ok a U)
  | _ => none
@[simp] theorem noEx_ok {α : Type} (a : α) (U : Store) : noEx (some (.ok a U)) = some (.ok a U) := rfl
/-- one turn of a comprehension -/
def turnL (tg : Tg) (cond : Rho → M Bool) (el : Rho → M D) (ρ : Rho) (x : D) (V : Store) : Option (R (Option D)) := noEx (match asgT V tg x ρ with
  | some ρ2 => bnd (cond ρ2 V) fun k V1 => if k then bnd (el ρ2 V1) fun d V2 => ret (some d) V2 else ret none V1
  | none => none)
/-- a comprehension's items -/
def lcGo (turn : D → M (Option D)) : List (Store → Option D) → M (List D)
  | [] => ret []
  | g :: r => fun U => (match g U with
    | some x => bnd (turn x U) fun o U1 => bnd (lcGo turn r U1) fun ds U2 => ret (match o with | some d => d :: ds | none => ds) U2
    | none => none)
mutual
def ev (C : Cal) : IE → Rho → M D
  | .cst d, _, U => some (.ok d U)
  | .glo _ d, _, U => some (.ok d U)
  | .var i, ρ, U => (match ρ[i]? with
    | some (some d) => some (.ok d U)
    | _ => none)
  | .bin op m a b, ρ, U => bnd (ev C a ρ U) fun x U1 => bnd (ev C b ρ U1) fun y U2 => binop op m x y U2
  | .neg a, ρ, U => bnd (ev C a ρ U) fun x U1 => (match x with
    | .int i => some (.ok (.int (-i)) U1)
    | _ => none)
  | .cmp op a b, ρ, U => bnd (ev C a ρ U) fun x U1 => bnd (ev C b ρ U1) fun y U2 => (match cmpop op U2 x y with
    | some k => some (.ok (.bl k) U2)
    | none => none)
  | .cmp2 op1 op2 a b c, ρ, U => bnd (ev C a ρ U) fun x U1 => bnd (ev C b ρ U1) fun y U2 => (match cmpop op1 U2 x y with
    | some k => if k then bnd (ev C c ρ U2) fun z U3 => (match cmpop op2 U3 y z with
      | some j => some (.ok (.bl j) U3)
      | none => none) else some (.ok (.bl false) U2)
    | none => none)
  | .andE a b, ρ, U => bnd (ev C a ρ U) fun x U1 => (match x with
    | .bl k => if k then ev C b ρ U1 else some (.ok (.bl false) U1)
    | _ => none)
  | .orE a b, ρ, U => bnd (ev C a ρ U) fun x U1 => (match x with
    | .bl k => if k then some (.ok (.bl true) U1) else ev C b ρ U1
    | _ => none)
  | .notE a, ρ, U => bnd (ev C a ρ U) fun x U1 => (match x with
    | .bl k => some (.ok (.bl (!k)) U1)
    | _ => none)
  | .ite t a b, ρ, U => bnd (evB C t ρ U) fun k U1 => if k then ev C a ρ U1 else ev C b ρ U1
  | .tup es, ρ, U => bnd (evs C es ρ U) fun ds U1 => some (.ok (.tup ds) U1)
  | .lst m es, ρ, U => bnd (evs C es ρ U) fun ds U1 => mkL m ds U1
  | .dnil m t, _, U => mkD m t [] U
  | .done m t a b, ρ, U => bnd (ev C a ρ U) fun k U1 => bnd (ev C b ρ U1) fun v U2 => if keyFor t k then mkD m t [(k, v)] U2 else none
  | .repL m es a, ρ, U => bnd (evs C es ρ U) fun ds U1 => bnd (ev C a ρ U1) fun k U2 => (match k with
    | .int k => if -1000000 ≤ k ∧ k ≤ 1000000 ∧ ds.length * k.toNat ≤ SZ then mkL m (List.replicate k.toNat ds).flatten U2 else none
    | _ => none)
  | .idx a i, ρ, U => bnd (ev C a ρ U) fun x U1 => bnd (ev C i ρ U1) fun y U2 => index1 x y U2
  | .slc m a lo hi, ρ, U => bnd (ev C a ρ U) fun x U1 => bnd (ev C lo ρ U1) fun l U2 => if (bnd? l).isSome then bnd (ev C hi ρ U2) fun h U3 => slice1 m x l h U3 else none
  | .fld a f, ρ, U => bnd (ev C a ρ U) fun x U1 => getFld x f U1
  | .call fz f es, ρ, U => bnd (evs C es ρ U) fun ds U1 => frz fz U1 (C f ds U1)
  | .meth fz c f a es, ρ, U => bnd (ev C a ρ U) fun x U1 => (match x with
    | .ref n => (match U1[n]? with
      | some (.ins c' _) => if c' = c then bnd (evs C es ρ U1) fun ds U2 => frz fz U2 (C (c ++ "." ++ f) (.ref n :: ds) U2) else none
      | _ => none)
    | _ => none)
  | .make c es, ρ, U => bnd (evs C es ρ U) fun ds U1 => bnd (C (c ++ ".__init__") (.ref U1.length :: ds) (U1 ++ [.ins c []])) fun d U2 => (match d with
    | .non => some (.ok (.ref U1.length) U2)
    | _ => none)
  | .prim p m es, ρ, U => (match es with
    | .cons a r => bnd (ev C a ρ U) fun x U1 => if recvOk p U1 x then bnd (evs C r ρ U1) fun ds U2 => prim p m (x :: ds) U2 else none
    | .nil => none)
  | .lc m own tg it cond el, ρ, U => bnd (evIt C it ρ U) fun src U1 => if SZ < src.get.length then none else
      bnd (lcGo (turnL tg (evB C cond) (ev C el) (wipe ρ own)) src.get U1) fun ds U2 => if src.fin U2 then mkL m ds U2 else none
  | .isin a cs, ρ, U => bnd (ev C a ρ U) fun x U1 => (match isInst U1 x cs with
    | some k => some (.ok (.bl k) U1)
    | none => none)
  | .sortK m a caps key, ρ, U => bnd (ev C a ρ U) fun x U1 => (match x with
    | .lst xs => bnd (lcGo (fun x V => bnd (ev C key (some x :: caps.map fun i => (ρ[i]?).join) V) fun d V1 => if V1 = V then ret (some d) V1 else none) (fixS xs).get U1) fun ks U2 => (match sortBy ks xs with
      | some ys => mkL m ys U2
      | none => none)
    | _ => none)
  | .minK a caps key, ρ, U => bnd (ev C a ρ U) fun x U1 => (match x with
    | .lst xs => bnd (lcGo (fun x V => bnd (ev C key (some x :: caps.map fun i => (ρ[i]?).join) V) fun d V1 => if V1 = V then ret (some d) V1 else none) (fixS xs).get U1) fun ks U2 => (match sortBy ks xs with
      | some (y :: _) => some (.ok y U2)
      | _ => none)
    | _ => none)
/-- a test -/
def evB (C : Cal) : IE → Rho → M Bool
  | .andE a b, ρ, U => bnd (evB C a ρ U) fun k U1 => if k then evB C b ρ U1 else some (.ok false U1)
  | .orE a b, ρ, U => bnd (evB C a ρ U) fun k U1 => if k then some (.ok true U1) else evB C b ρ U1
  | .notE a, ρ, U => bnd (evB C a ρ U) fun k U1 => some (.ok (!k) U1)
  | .cst (.bl b), _, U => some (.ok b U)
  | e, ρ, U => bnd (ev C e ρ U) fun x U1 => tru x U1
def evs (C : Cal) : IEs → Rho → M (List D)
  | .nil, _, U => some (.ok [] U)
  | .cons e r, ρ, U => bnd (ev C e ρ U) fun x U1 => bnd (evs C r ρ U1) fun xs U2 => some (.ok (x :: xs) U2)
def evIt (C : Cal) : It → Rho → M Src
  | .seq e, ρ, U => bnd (ev C e ρ U) fun x U1 => (match srcOf U1 x with
    | some s => some (.ok s U1)
    | none => none)
  | .range1 a, ρ, U => bnd (ev C a ρ U) fun x U1 => (match x with
    | .int i => if small i then some (.ok (fixS (rangeL 0 i)) U1) else none
    | _ => none)
  | .range2 a b, ρ, U => bnd (ev C a ρ U) fun x U1 => bnd (ev C b ρ U1) fun y U2 => (match x, y with
    | .int i, .int j => if small i && small j then some (.ok (fixS (rangeL i j)) U2) else none
    | _, _ => none)
  | .range3 a b c, ρ, U => bnd (ev C a ρ U) fun x U1 => bnd (ev C b ρ U1) fun y U2 => (match x, y with
    | .int i, .int j => if small i && small j && decide (0 < c) && decide (c ≤ 1000) then some (.ok (fixS ((List.range ((j - i + c - 1) / c).toNat).map fun (k : Nat) => .int (i + (k : Int) * c))) U2) else none
    | _, _ => none)
  | .enum e k, ρ, U => bnd (ev C e ρ U) fun x U1 => (match srcL U1 x with
    | some s => if k = 0 then some (.ok ⟨enumS k 0 s.get, s.fin⟩ U1) else none
    | none => none)
  | .zip a b, ρ, U => bnd (ev C a ρ U) fun x U1 => bnd (ev C b ρ U1) fun y U2 => (match zipOf U2 x y with
    | some (s, t) => some (.ok ⟨zipS s.get t.get, fun V => s.fin V && t.fin V⟩ U2)
    | none => none)
  | .rev e, ρ, U => bnd (ev C e ρ U) fun x U1 => (match x with
    | .lst xs => some (.ok (fixS xs.reverse) U1)
    | .tup xs => some (.ok (fixS xs.reverse) U1)
    | _ => none)
  | .keys i, ρ, U => (match ρ[i]? with
    | some (some (.dct t kvs)) => if t = 1 then some (.ok (fixS (kvs.map (·.1))) U) else none
    | _ => none)
end

/-! ### statements -/
inductive RS where
  | nx (ρ : Rho) (U : Store) | rt (d : D) (U : Store) | bk (ρ : Rho) (U : Store) | ex (x : Ex) (ρ : Rho) (U : Store)
  deriving Repr
def bndS {α : Type} (r : Option (R α)) (ρ : Rho) (f : α → Store → Option RS) : Option RS :=
  match r with
  | some (.ok a U) => f a U
  | some (.ex x U) => some (.ex x ρ U)
  | none => none
@[simp] theorem bndS_ok {α : Type} (a : α) (U : Store) (ρ : Rho) (f : α → Store → Option RS) : bndS (some (.ok a U)) ρ f = f a U := rfl
@[simp] theorem bndS_ex {α : Type} (x : Ex) (U : Store) (ρ : Rho) (f : α → Store → Option RS) : bndS (some (.ex x U)) ρ f = some (.ex x ρ U) := rfl
@[simp] theorem bndS_none {α : Type} (ρ : Rho) (f : α → Store → Option RS) : bndS none ρ f = none := rfl
/-- then -/
def thn (r : Option RS) (f : Rho → Store → Option RS) : Option RS :=
  match r with
  | some (.nx ρ U) => f ρ U
  | r => r
@[simp] theorem thn_nx (ρ : Rho) (U : Store) (f : Rho → Store → Option RS) : thn (some (.nx ρ U)) f = f ρ U := rfl
@[simp] theorem thn_rt (d : D) (U : Store) (f : Rho → Store → Option RS) : thn (some (.rt d U)) f = some (.rt d U) := rfl
@[simp] theorem thn_bk (ρ : Rho) (U : Store) (f : Rho → Store → Option RS) : thn (some (.bk ρ U)) f = some (.bk ρ U) := rfl
@[simp] theorem thn_ex (x : Ex) (ρ : Rho) (U : Store) (f : Rho → Store → Option RS) : thn (some (.ex x ρ U)) f = some (.ex x ρ U) := rfl
@[simp] theorem thn_none (f : Rho → Store → Option RS) : thn none f = none := rfl
/-- a loop's body is done: on to the next turn, or out of the loop -/
def turnEnd (r : Option RS) (next : Rho → Store → Option RS) : Option RS :=
  match r with
  | some (.nx ρ U) => next ρ U
  | some (.bk ρ U) => some (.nx ρ U)
  | r => r
@[simp] theorem turnEnd_nx (ρ : Rho) (U : Store) (f : Rho → Store → Option RS) : turnEnd (some (.nx ρ U)) f = f ρ U := rfl
@[simp] theorem turnEnd_rt (d : D) (U : Store) (f : Rho → Store → Option RS) : turnEnd (some (.rt d U)) f = some (.rt d U) := rfl
@[simp] theorem turnEnd_bk (ρ : Rho) (U : Store) (f : Rho → Store → Option RS) : turnEnd (some (.bk ρ U)) f = some (.nx ρ U) := rfl
@[simp] theorem turnEnd_ex (x : Ex) (ρ : Rho) (U : Store) (f : Rho → Store → Option RS) : turnEnd (some (.ex x ρ U)) f = some (.ex x ρ U) := rfl
@[simp] theorem turnEnd_none (f : Rho → Store → Option RS) : turnEnd none f = none := rfl
def forGo (fin : Store → Bool) (turn : D → Rho → Store → Option RS) : List (Store → Option D) → Rho → Store → Option RS
  | [], ρ, U => if fin U then some (.nx ρ U) else none
  | g :: r, ρ, U => (match g U with
    | some x => turnEnd (turn x ρ U) fun ρ' U' => forGo fin turn r ρ' U'
    | none => none)
/-- one turn of a for -/
def turnF (tg : Tg) (b : Rho → Store → Option RS) (x : D) (ρ : Rho) (V : Store) : Option RS := match asgT V tg x ρ with
  | some ρ2 => b ρ2 V
  | none => none
/-- while, with at most n tests -/
def whileGo (test : Rho → M Bool) (body : Rho → Store → Option RS) : Nat → Rho → Store → Option RS
  | 0, _, _ => none
  | n + 1, ρ, U => bndS (test ρ U) ρ fun k U1 => if k then turnEnd (body ρ U1) fun ρ' U' => whileGo test body n ρ' U' else some (.nx ρ U1)
def WN : Nat := 1000000
mutual
def exec (C : Cal) : IS → Rho → Store → Option RS
  | .asg tg e, ρ, U => bndS (ev C e ρ U) ρ fun d U1 => (match asgT U1 tg d ρ with
    | some ρ' => some (.nx ρ' U1)
    | none => none)
  | .asgI o i e, ρ, U => bndS (ev C e ρ U) ρ fun d U1 => bndS (ev C o ρ U1) ρ fun x U2 => bndS (ev C i ρ U2) ρ fun k U3 => bndS (setIx x k d U3) ρ fun _ U4 => some (.nx ρ U4)
  | .asgF o f e, ρ, U => bndS (ev C e ρ U) ρ fun d U1 => bndS (ev C o ρ U1) ρ fun x U2 => bndS (setFld x f d U2) ρ fun _ U3 => some (.nx ρ U3)
  | .asgIV o i v e, ρ, U => bndS (ev C e ρ U) ρ fun d U1 => (match d with
    | .tup [x, y] => bndS (ev C o ρ U1) ρ fun a U2 => bndS (ev C i ρ U2) ρ fun k U3 => bndS (setIx a k x U3) ρ fun _ U4 => some (.nx (ρ.set v (some y)) U4)
    | _ => none)
  | .aug i op e, ρ, U => (match ρ[i]? with
    | some (some x) => bndS (ev C e ρ U) ρ fun d U1 => (match x, d with
      | .int a, .int b => (match op with
        | .add => some (.nx (ρ.set i (some (.int (a + b)))) U1)
        | .sub => some (.nx (ρ.set i (some (.int (a - b)))) U1)
        | _ => none)
      | _, _ => none)
    | _ => none)
  | .expr e, ρ, U => bndS (ev C e ρ U) ρ fun _ U1 => some (.nx ρ U1)
  | .ret e, ρ, U => bndS (ev C e ρ U) ρ fun d U1 => some (.rt d U1)
  | .retN, _, U => some (.rt .non U)
  | .ifS t a b, ρ, U => bndS (evB C t ρ U) ρ fun k U1 => if k then execs C a ρ U1 else execs C b ρ U1
  | .forS tg it b, ρ, U => bndS (evIt C it ρ U) ρ fun src U1 => forGo src.fin (turnF tg (execs C b)) src.get ρ U1
  | .whileS t b, ρ, U => whileGo (evB C t) (execs C b) WN ρ U
  | .brk, ρ, U => some (.bk ρ U)
  | .pass, ρ, U => some (.nx ρ U)
  | .raise c w p, ρ, U => bndS (ev C w ρ U) ρ fun _ U1 => bndS (ev C p ρ U1) ρ fun d U2 => some (.ex ⟨c, d⟩ ρ U2)
  | .tryS b c i h, ρ, U => (match execs C b ρ U with
    | some (.ex x ρ1 U1) => if (above x.c).contains c then (match i with
      | some j => (match execs C h (ρ1.set j (some (.exn x.c x.p))) U1 with
        | some (.nx ρ2 U2) => some (.nx (ρ2.set j none) U2)
        | some (.rt d U2) => some (.rt d U2)
        | _ => none)
      | none => execs C h ρ1 U1) else some (.ex x ρ1 U1)
    | r => r)
  | .never, _, _ => none
def execs (C : Cal) : ISs → Rho → Store → Option RS
  | .nil, ρ, U => some (.nx ρ U)
  | .cons s r, ρ, U => thn (exec C s ρ U) fun ρ' U' => execs C r ρ' U'
end
/-- a def's end -/
def fin : Option RS → Option (R D)
  | some (.nx _ U) => some (.ok .non U)
  | some (.rt d U) => some (.ok d U)
  | some (.ex x _ U) => some (.ex x U)
  | _ => none
@[simp] theorem fin_nx (ρ : Rho) (U : Store) : fin (some (.nx ρ U)) = some (.ok .non U) := rfl
@[simp] theorem fin_rt (d : D) (U : Store) : fin (some (.rt d U)) = some (.ok d U) := rfl
@[simp] theorem fin_ex (x : Ex) (ρ : Rho) (U : Store) : fin (some (.ex x ρ U)) = some (.ex x U) := rfl
def startR (fn : Fn) (ds : List D) : Rho := ds.map some ++ List.replicate (fn.ns - fn.np) none
/-- a call, at most k deep -/
def run (Γ : Tab) : Nat → Cal
  | 0, _, _, _ => none
  | k + 1, f, ds, U => (match Γ f with
    | some fn => if ds.length = fn.np then fin (execs (run Γ k) fn.body (startR fn ds) U) else none
    | none => none)
end VI

/-! VIp: plain lemmas about the evaluator. -/
namespace VI
/-! ### trees without references -/
mutual
def closed : D → Bool
  | .tup xs => closedL xs
  | .lst xs => closedL xs
  | .dct _ kvs => closedP kvs
  | .ref _ => false
  | _ => true
def closedL : List D → Bool
  | [] => true
  | x :: r => closed x && closedL r
def closedP : List (D × D) → Bool
  | [] => true
  | (k, x) :: r => closed k && (closed x && closedP r)
end
mutual
theorem rsv_closed {U : Store} {n : Nat} {sub : D → Option D} : ∀ (d : D), closed d = true → rsv U n sub d = some d
  | .non, _ => by simp [rsv]
  | .bl _, _ => by simp [rsv]
  | .int _, _ => by simp [rsv]
  | .str _, _ => by simp [rsv]
  | .exn _ _, _ => by simp [rsv]
  | .ref _, h => by simp [closed] at h
  | .tup xs, h => by simp [rsv, rsvL_closed xs (by simpa [closed] using h)]
  | .lst xs, h => by simp [rsv, rsvL_closed xs (by simpa [closed] using h)]
  | .dct t kvs, h => by simp [rsv, rsvP_closed kvs (by simpa [closed] using h)]
theorem rsvL_closed {U : Store} {n : Nat} {sub : D → Option D} : ∀ (ds : List D), closedL ds = true → rsvL U n sub ds = some ds
  | [], _ => by simp [rsvL]
  | x :: r, h => by
    simp only [closedL, Bool.and_eq_true] at h
    simp [rsvL, rsv_closed x h.1, rsvL_closed r h.2]
theorem rsvP_closed {U : Store} {n : Nat} {sub : D → Option D} : ∀ (ds : List (D × D)), closedP ds = true → rsvP U n sub ds = some ds
  | [], _ => by simp [rsvP]
  | (k, x) :: r, h => by
    simp only [closedP, Bool.and_eq_true] at h
    simp [rsvP, rsv_closed k h.1, rsv_closed x h.2.1, rsvP_closed r h.2.2]
end
theorem rs_closed {U : Store} {n : Nat} {d : D} (h : closed d = true) : rs U n d = some d := rsv_closed d h
theorem snap_closed {U : Store} {d : D} (h : closed d = true) : snap U d = some d := rsv_closed d h
theorem snapL_closed {U : Store} : ∀ {ds : List D}, closedL ds = true → snapL U ds = some ds
  | [], _ => rfl
  | x :: r, h => by
    simp only [closedL, Bool.and_eq_true] at h
    simp [snapL, snap_closed h.1, snapL_closed h.2]
/-- a call that leaves the store as it is and gives a tree -/
theorem frz_closed {fz : Bool} {U : Store} {d : D} (h : closed d = true) : frz fz U (some (.ok d U)) = some (.ok d U) := by
  unfold frz
  cases fz
  · rfl
  · simp [rs_closed h]
@[simp] theorem frz_bl {fz : Bool} {U : Store} {b : Bool} : frz fz U (some (.ok (.bl b) U)) = some (.ok (.bl b) U) := frz_closed rfl
@[simp] theorem frz_int {fz : Bool} {U : Store} {b : Int} : frz fz U (some (.ok (.int b) U)) = some (.ok (.int b) U) := frz_closed rfl
@[simp] theorem frz_str {fz : Bool} {U : Store} {b : Tx} : frz fz U (some (.ok (.str b) U)) = some (.ok (.str b) U) := frz_closed rfl
@[simp] theorem frz_non {fz : Bool} {U : Store} : frz fz U (some (.ok .non U)) = some (.ok .non U) := frz_closed rfl
/-! ### loops over what stays -/
def forL (turn : D → Rho → Store → Option RS) : List D → Rho → Store → Option RS
  | [], ρ, U => some (.nx ρ U)
  | x :: r, ρ, U => turnEnd (turn x ρ U) fun ρ' U' => forL turn r ρ' U'
theorem forGo_fix (turn : D → Rho → Store → Option RS) : ∀ (xs : List D) (ρ : Rho) (U : Store), forGo (fixS xs).fin turn (fixS xs).get ρ U = forL turn xs ρ U
  | [], ρ, U => rfl
  | x :: r, ρ, U => by
    show turnEnd (turn x ρ U) (fun ρ' U' => forGo (fixS r).fin turn (fixS r).get ρ' U') = turnEnd (turn x ρ U) fun ρ' U' => forL turn r ρ' U'
    congr 1
    funext ρ' U'
    exact forGo_fix turn r ρ' U'
/-- a loop that goes through, with an invariant by what is behind -/
theorem forL_inv {turn : D → Rho → Store → Option RS} {U : Store} (I : List D → Rho → Prop) : ∀ (xs done : List D) (ρ : Rho), I done ρ → (∀ (d : List D) (x : D) (r : List D) (ρ : Rho), done ++ xs = d ++ x :: r → I d ρ → ∃ ρ', turn x ρ U = some (.nx ρ' U) ∧ I (d ++ [x]) ρ') → ∃ ρ', forL turn xs ρ U = some (.nx ρ' U) ∧ I (done ++ xs) ρ'
  | [], done, ρ, h, _ => ⟨ρ, rfl, by rw [List.append_nil]; exact h⟩
  | x :: r, done, ρ, h, st => by
    obtain ⟨ρ', e, h'⟩ := st done x r ρ rfl h
    obtain ⟨ρ2, e2, h2⟩ := forL_inv I r (done ++ [x]) ρ' h' fun d y s ρ1 e1 hd => st d y s ρ1 (by rw [← e1]; simp) hd
    refine ⟨ρ2, ?_, by simpa using h2⟩
    rw [forL, e, turnEnd_nx]
    exact e2
theorem run_at {Γ : Tab} {k : Nat} {f : String} {fn : Fn} {ds : List D} {U : Store} (h : Γ f = some fn) (hd : ds.length = fn.np) : run Γ (k + 1) f ds U = fin (execs (run Γ k) fn.body (startR fn ds) U) := by
  rw [run, h]
  simp [hd]
@[simp] theorem evB_yes (C : Cal) (ρ : Rho) (U : Store) : evB C yes ρ U = some (.ok true U) := by simp [yes, evB]
/-! ### loops with the store -/
/-- a loop that goes through, with an invariant by what is behind -/
theorem forL_all {turn : D → Rho → Store → Option RS} (I : List D → Rho → Store → Prop) : ∀ (xs done : List D) (ρ : Rho) (U : Store), I done ρ U → (∀ (d : List D) (x : D) (r : List D) (ρ : Rho) (U : Store), done ++ xs = d ++ x :: r → I d ρ U → ∃ ρ' U', turn x ρ U = some (.nx ρ' U') ∧ I (d ++ [x]) ρ' U') → ∃ ρ' U', forL turn xs ρ U = some (.nx ρ' U') ∧ I (done ++ xs) ρ' U'
  | [], done, ρ, U, h, _ => ⟨ρ, U, rfl, by rw [List.append_nil]; exact h⟩
  | x :: r, done, ρ, U, h, st => by
    obtain ⟨ρ', U', e, h'⟩ := st done x r ρ U rfl h
    obtain ⟨ρ2, U2, e2, h2⟩ := forL_all I r (done ++ [x]) ρ' U' h' fun d y s ρ1 U1 e1 hd => st d y s ρ1 U1 (by rw [← e1]; simp) hd
    refine ⟨ρ2, U2, ?_, by simpa using h2⟩
    rw [forL, e, turnEnd_nx]
    exact e2
/-- .. or ends early by a return -/
theorem forL_any {turn : D → Rho → Store → Option RS} (I : List D → Rho → Store → Prop) (E : RS → Prop) : ∀ (xs done : List D) (ρ : Rho) (U : Store), I done ρ U →
    (∀ (d : List D) (x : D) (r : List D) (ρ : Rho) (U : Store), done ++ xs = d ++ x :: r → I d ρ U → (∃ ρ' U', turn x ρ U = some (.nx ρ' U') ∧ I (d ++ [x]) ρ' U') ∨ ∃ v U', turn x ρ U = some (.rt v U') ∧ E (.rt v U')) →
    (∃ ρ' U', forL turn xs ρ U = some (.nx ρ' U') ∧ I (done ++ xs) ρ' U') ∨ ∃ v U', forL turn xs ρ U = some (.rt v U') ∧ E (.rt v U')
  | [], done, ρ, U, h, _ => .inl ⟨ρ, U, rfl, by rw [List.append_nil]; exact h⟩
  | x :: r, done, ρ, U, h, st => by
    rcases st done x r ρ U rfl h with ⟨ρ', U', e, h'⟩ | ⟨v, U', e, h'⟩
    · rw [forL, e, turnEnd_nx]
      rcases forL_any I E r (done ++ [x]) ρ' U' h' fun d y s ρ1 U1 e1 hd => st d y s ρ1 U1 (by rw [← e1]; simp) hd with ⟨ρ2, U2, e2, h2⟩ | q
      · exact .inl ⟨ρ2, U2, e2, by simpa using h2⟩
      · exact .inr q
    · exact .inr ⟨v, U', by rw [forL, e, turnEnd_rt], h'⟩
/-- the pairs that enumerate gives -/
def enumD : Nat → List D → List D
  | _, [] => []
  | i, x :: r => .tup [.int i, x] :: enumD (i + 1) r
theorem forGo_enum (turn : D → Rho → Store → Option RS) : ∀ (xs : List D) (i : Nat) (ρ : Rho) (U : Store), forGo (fixS xs).fin turn (enumS 0 i (fixS xs).get) ρ U = forL turn (enumD i xs) ρ U
  | [], i, ρ, U => rfl
  | x :: r, i, ρ, U => by
    show (match ((fun _ : Store => some x) U).map (fun x => D.tup [.int (0 + (i : Int)), x]) with
      | some y => turnEnd (turn y ρ U) fun ρ' U' => forGo (fixS r).fin turn (enumS 0 (i + 1) (fixS r).get) ρ' U'
      | none => none) = turnEnd (turn (.tup [.int i, x]) ρ U) fun ρ' U' => forL turn (enumD (i + 1) r) ρ' U'
    simp only [Option.map_some, Int.zero_add]
    congr 1
    funext ρ' U'
    exact forGo_enum turn r (i + 1) ρ' U'
/-- a while that comes to its end: by a measure -/
theorem while_ends {test : Rho → M Bool} {body : Rho → Store → Option RS} (I : Nat → Rho → Store → Prop) (Q : RS → Prop)
    (st : ∀ m ρ U, I m ρ U → (test ρ U = some (.ok false U) ∧ Q (.nx ρ U)) ∨ (test ρ U = some (.ok true U) ∧ ((∃ m' ρ' U', m' < m ∧ body ρ U = some (.nx ρ' U') ∧ I m' ρ' U') ∨ ∃ v U', body ρ U = some (.rt v U') ∧ Q (.rt v U')))) :
    ∀ (n m : Nat) (ρ : Rho) (U : Store), m < n → I m ρ U → ∃ r, whileGo test body n ρ U = some r ∧ Q r
  | 0, m, ρ, U, h, _ => by omega
  | n + 1, m, ρ, U, h, hI => by
    rw [whileGo]
    rcases st m ρ U hI with ⟨e, q⟩ | ⟨e, ⟨m', ρ', U', hm, e2, h2⟩ | ⟨v, U', e2, q⟩⟩
    · exact ⟨_, by rw [e]; simp, q⟩
    · obtain ⟨r, e3, q⟩ := while_ends I Q st n m' ρ' U' (by omega) h2
      exact ⟨r, by rw [e]; simp [e2, e3], q⟩
    · exact ⟨_, by rw [e]; simp [e2], q⟩
/-- a comprehension over what stays, each turn leaving the store -/
def lcL (turn : D → M (Option D)) : List D → M (List D)
  | [] => ret []
  | x :: r => fun U => bnd (turn x U) fun o U1 => bnd (lcL turn r U1) fun ds U2 => ret (match o with | some d => d :: ds | none => ds) U2
theorem lcGo_fix (turn : D → M (Option D)) : ∀ (xs : List D) (U : Store), lcGo turn (fixS xs).get U = lcL turn xs U
  | [], U => rfl
  | x :: r, U => by
    show bnd (turn x U) (fun o U1 => bnd (lcGo turn (fixS r).get U1) _) = bnd (turn x U) fun o U1 => bnd (lcL turn r U1) _
    congr 1
    funext o U1
    exact congrArg (fun z => bnd z fun ds U2 => ret (match o with | some d => d :: ds | none => ds) U2) (lcGo_fix turn r U1)
theorem lcL_map {turn : D → M (Option D)} {U : Store} (f : D → Option D) : ∀ (xs : List D), (∀ x ∈ xs, turn x U = some (.ok (f x) U)) → lcL turn xs U = some (.ok (xs.filterMap f) U)
  | [], _ => rfl
  | x :: r, h => by
    show bnd (turn x U) (fun o U1 => bnd (lcL turn r U1) fun ds U2 => ret (match o with | some d => d :: ds | none => ds) U2) = _
    rw [h x (by simp)]
    simp only [bnd_ok]
    rw [lcL_map f r fun y hy => h y (by simp [hy])]
    simp only [bnd_ok, ret_eq, List.filterMap_cons]
    cases f x <;> rfl
theorem lcL_maps {α : Type} {turn : D → M (Option D)} {U : Store} (g h : α → D) : ∀ (xs : List α), (∀ x ∈ xs, turn (g x) U = some (.ok (some (h x)) U)) → lcL turn (xs.map g) U = some (.ok (xs.map h) U)
  | [], _ => rfl
  | x :: r, q => by
    show bnd (turn (g x) U) (fun o U1 => bnd (lcL turn (r.map g) U1) fun ds U2 => ret (match o with | some d => d :: ds | none => ds) U2) = _
    rw [q x (by simp)]
    simp only [bnd_ok]
    rw [lcL_maps g h r fun y hy => q y (by simp [hy])]
    rfl
theorem frz_drop {U V : Store} {d : D} (h : closed d = true) : frz true U (some (.ok d (U ++ V))) = some (.ok d U) := by
  unfold frz
  simp [rs_closed h]
theorem bools_map {α : Type} (f : α → Bool) : ∀ xs : List α, bools (xs.map fun x => .bl (f x)) = some (xs.map f)
  | [] => rfl
  | x :: r => by
    simp only [List.map_cons, bools]
    rw [bools_map f r]
@[simp] theorem fixS_fin (xs : List D) (U : Store) : (fixS xs).fin U = true := rfl
@[simp] theorem fixS_len (xs : List D) : (fixS xs).get.length = xs.length := by simp [fixS]
/-! ### comparisons, by their sorts -/
theorem cmp_eq_str {U : Store} {a b : Tx} : cmpop .eq U (.str a) (.str b) = some (decide (a = b)) := by simp [cmpop, eqv, scalS, pyeq]
theorem cmp_ne_str {U : Store} {a b : Tx} : cmpop .ne U (.str a) (.str b) = some (!decide (a = b)) := by simp [cmpop, eqv, scalS, pyeq]
theorem cmp_eq_int {U : Store} {a b : Int} : cmpop .eq U (.int a) (.int b) = some (decide (a = b)) := by simp [cmpop, eqv, scalS, pyeq]
theorem cmp_ne_int {U : Store} {a b : Int} : cmpop .ne U (.int a) (.int b) = some (!decide (a = b)) := by simp [cmpop, eqv, scalS, pyeq]
theorem cmp_eq_bl {U : Store} {a b : Bool} : cmpop .eq U (.bl a) (.bl b) = some (decide (a = b)) := by simp [cmpop, eqv, scalS, pyeq]
theorem cmp_ne_bl {U : Store} {a b : Bool} : cmpop .ne U (.bl a) (.bl b) = some (!decide (a = b)) := by simp [cmpop, eqv, scalS, pyeq]
theorem cmp_lt_int {U : Store} {a b : Int} : cmpop .lt U (.int a) (.int b) = some (decide (a < b)) := rfl
theorem cmp_le_int {U : Store} {a b : Int} : cmpop .le U (.int a) (.int b) = some (decide (a ≤ b)) := rfl
theorem cmp_gt_int {U : Store} {a b : Int} : cmpop .gt U (.int a) (.int b) = some (decide (b < a)) := rfl
theorem cmp_ge_int {U : Store} {a b : Int} : cmpop .ge U (.int a) (.int b) = some (decide (b ≤ a)) := rfl
theorem cmp_in {U : Store} {a b : D} : cmpop .isIn U a b = member U a b := rfl
theorem cmp_notIn {U : Store} {a b : D} : cmpop .notIn U a b = (member U a b).map (! ·) := rfl
theorem tru_bl {U : Store} {b : Bool} : tru (.bl b) U = some (.ok b U) := rfl
end VI

/-! K10a: going on from starts along edges: what is reached (plain). -/
namespace VI

/-! ### what is reached -/
inductive Reach (edges : List (Tx × Tx)) (starts : List Tx) (goal : Tx) (cut : List Tx) : Tx → Prop
  | start {x : Tx} : x ∈ starts → x ≠ goal → x ∉ cut → Reach edges starts goal cut x
  | step {y x : Tx} : Reach edges starts goal cut y → (y, x) ∈ edges → x ≠ goal → x ∉ cut → Reach edges starts goal cut x
/-- some edge leads from what is reached to the goal -/
def Meets (edges : List (Tx × Tx)) (starts : List Tx) (goal : Tx) (cut : List Tx) : Prop := ∃ y, Reach edges starts goal cut y ∧ (y, goal) ∈ edges
theorem reach_closed {edges : List (Tx × Tx)} {starts : List Tx} {goal : Tx} {cut come : List Tx} (h0 : ∀ x ∈ starts, x ≠ goal → x ∉ cut → x ∈ come) (hc : ∀ a b, (a, b) ∈ edges → a ∈ come → b ≠ goal → b ∉ cut → b ∈ come) {x : Tx} (h : Reach edges starts goal cut x) : x ∈ come := by
  induction h with
  | start h1 h2 h3 => exact h0 _ h1 h2 h3
  | step _ e g c ih => exact hc _ _ e ih g c
theorem nodup_le {α : Type} [DecidableEq α] : ∀ {l m : List α}, l.Nodup → (∀ x ∈ l, x ∈ m) → l.length ≤ m.length
  | [], m, _, _ => Nat.zero_le _
  | x :: r, m, nd, h => by
    have hx : x ∈ m := h x (by simp)
    rw [List.nodup_cons] at nd
    have ih := nodup_le (l := r) (m := m.erase x) nd.2 fun y hy => by
      have hne : y ≠ x := fun e => nd.1 (e ▸ hy)
      exact (List.mem_erase_of_ne hne).mpr (h y (by simp [hy]))
    rw [List.length_erase_of_mem hx] at ih
    have : 0 < m.length := List.length_pos_of_mem hx
    simp only [List.length_cons]
    omega
theorem reach_names {edges : List (Tx × Tx)} {starts : List Tx} {goal : Tx} {cut names : List Tx} (hs : ∀ x ∈ starts, x ∈ names) (he : ∀ a b, (a, b) ∈ edges → b ∈ names) {x : Tx} (h : Reach edges starts goal cut x) : x ∈ names := by
  cases h with
  | start h1 _ _ => exact hs _ h1
  | step _ e _ _ => exact he _ _ e
/-! ### a dict of texts, each True -/
def trueD (l : List Tx) : List (D × D) := l.map fun x => (.str x, .bl true)
/-- put in at the end where it isn't there -/
def put1 (l : List Tx) (x : Tx) : List Tx := if x ∈ l then l else l ++ [x]
theorem look_true (l : List Tx) (x : Tx) : (lookD (trueD l) (.str x)).isSome = decide (x ∈ l) := by
  induction l with
  | nil => rfl
  | cons y r ih =>
    simp only [trueD, List.map_cons, lookD] at ih ⊢
    by_cases h : y = x
    · subst h; simp
    · have h1 : ¬ (D.str y = D.str x) := fun z => h (by injection z)
      have h2 : ¬ x = y := fun z => h z.symm
      rw [if_neg h1, ih]
      simp [h2]
theorem put_true (l : List Tx) (x : Tx) : putD (trueD l) (.str x) (.bl true) = trueD (put1 l x) := by
  induction l with
  | nil => simp [trueD, putD, put1]
  | cons y r ih =>
    simp only [trueD, List.map_cons, putD] at ih ⊢
    by_cases h : y = x
    · subst h
      simp [put1]
    · have h1 : ¬ (D.str y = D.str x) := fun z => h (by injection z)
      have h2 : ¬ x = y := fun z => h z.symm
      rw [if_neg h1, ih]
      unfold put1
      by_cases h3 : x ∈ r
      · simp [h3]
      · simp [h3, h2]
theorem put1_mem {l : List Tx} {x y : Tx} : y ∈ put1 l x ↔ y ∈ l ∨ y = x := by
  unfold put1
  split
  · constructor
    · exact .inl
    · rintro (h | rfl)
      · exact h
      · assumption
  · simp
theorem put1_nodup {l : List Tx} {x : Tx} (h : l.Nodup) : (put1 l x).Nodup := by
  unfold put1
  split
  · exact h
  · rw [List.nodup_append]
    refine ⟨h, by simp, fun a ha b hb => ?_⟩
    simp only [List.mem_singleton] at hb
    subst hb
    intro e
    subst e
    contradiction
theorem put1_len {l : List Tx} {x : Tx} : l.length ≤ (put1 l x).length := by
  unfold put1
  split
  · exact Nat.le_refl _
  · simp
/-! ### a pass along all edges, led's way -/
def pass1 (goal : Tx) (cut : List Tx) (come : List Tx) (e : Tx × Tx) : List Tx := if e.1 ∈ come ∧ e.2 ≠ goal ∧ e.2 ∉ cut then put1 come e.2 else come
def pass (edges : List (Tx × Tx)) (goal : Tx) (cut : List Tx) (come : List Tx) : List Tx := edges.foldl (pass1 goal cut) come
theorem pass1_mono {goal : Tx} {cut come : List Tx} {e : Tx × Tx} {x : Tx} (h : x ∈ come) : x ∈ pass1 goal cut come e := by
  unfold pass1
  split
  · exact put1_mem.mpr (.inl h)
  · exact h
theorem pass_mono {edges : List (Tx × Tx)} {goal : Tx} {cut : List Tx} : ∀ {come : List Tx} {x : Tx}, x ∈ come → x ∈ pass edges goal cut come := by
  unfold pass
  induction edges with
  | nil => intro come x h; exact h
  | cons e r ih => intro come x h; exact ih (pass1_mono h)
theorem pass_len {edges : List (Tx × Tx)} {goal : Tx} {cut : List Tx} : ∀ {come : List Tx}, come.length ≤ (pass edges goal cut come).length := by
  unfold pass
  induction edges with
  | nil => intro come; exact Nat.le_refl _
  | cons e r ih =>
    intro come
    refine Nat.le_trans ?_ (ih (come := pass1 goal cut come e))
    unfold pass1
    split
    · exact put1_len
    · exact Nat.le_refl _
theorem pass_nodup {edges : List (Tx × Tx)} {goal : Tx} {cut : List Tx} : ∀ {come : List Tx}, come.Nodup → (pass edges goal cut come).Nodup := by
  unfold pass
  induction edges with
  | nil => intro come h; exact h
  | cons e r ih =>
    intro come h
    refine ih ?_
    unfold pass1
    split
    · exact put1_nodup h
    · exact h
theorem pass_reach {edges all : List (Tx × Tx)} {starts : List Tx} {goal : Tx} {cut : List Tx} (hs : ∀ e ∈ edges, e ∈ all) : ∀ {come : List Tx}, (∀ x ∈ come, Reach all starts goal cut x) → ∀ x ∈ pass edges goal cut come, Reach all starts goal cut x := by
  unfold pass
  induction edges with
  | nil => intro come h; exact h
  | cons e r ih =>
    intro come h
    refine ih (fun e he => hs e (by simp [he])) ?_
    unfold pass1
    split
    · rename_i hc
      intro x hx
      rcases put1_mem.mp hx with hx | rfl
      · exact h x hx
      · exact .step (h _ hc.1) (hs e (by simp)) hc.2.1 hc.2.2
    · exact h
/-- a pass that adds nothing has found all that the edges lead to -/
theorem pass_same {edges : List (Tx × Tx)} {goal : Tx} {cut : List Tx} : ∀ {come : List Tx}, (pass edges goal cut come).length = come.length → ∀ a b, (a, b) ∈ edges → a ∈ come → b ≠ goal → b ∉ cut → b ∈ come := by
  induction edges with
  | nil => intro come _ a b h; cases h
  | cons e r ih =>
    intro come hl a b hm ha hg hc
    have h1 : (pass r goal cut (pass1 goal cut come e)).length = come.length := hl
    have h2 := pass_len (edges := r) (goal := goal) (cut := cut) (come := pass1 goal cut come e)
    have h3 : (pass1 goal cut come e).length = come.length := by
      have : come.length ≤ (pass1 goal cut come e).length := by
        unfold pass1
        split
        · exact put1_len
        · exact Nat.le_refl _
      omega
    have h4 : pass1 goal cut come e = come := by
      unfold pass1 at h3 ⊢
      split
      · rename_i hh
        rw [if_pos hh] at h3
        unfold put1 at h3 ⊢
        split
        · rfl
        · rename_i hn
          rw [if_neg hn] at h3
          simp at h3
      · rfl
    rcases List.mem_cons.mp hm with rfl | hm
    · by_cases hb : b ∈ come
      · exact hb
      · have : pass1 goal cut come (a, b) = come ++ [b] := by
          unfold pass1 put1
          rw [if_pos ⟨ha, hg, hc⟩, if_neg hb]
        rw [h4] at this
        have := congrArg List.length this
        simp at this
    · rw [h4] at h1
      exact ih h1 a b hm ha hg hc

theorem pass_fix {edges : List (Tx × Tx)} {goal : Tx} {cut come : List Tx} (h : ∀ a b, (a, b) ∈ edges → a ∈ come → b ≠ goal → b ∉ cut → b ∈ come) : pass edges goal cut come = come := by
  induction edges with
  | nil => rfl
  | cons e r ih =>
    have h1 : pass1 goal cut come e = come := by
      unfold pass1
      split
      · rename_i hh
        unfold put1
        rw [if_pos (h e.1 e.2 (by simp) hh.1 hh.2.1 hh.2.2)]
      · rfl
    show pass r goal cut (pass1 goal cut come e) = come
    rw [h1]
    exact ih fun a b hm => h a b (by simp [hm])
def passes (edges : List (Tx × Tx)) (goal : Tx) (cut : List Tx) : Nat → List Tx → List Tx
  | 0, come => come
  | n + 1, come => passes edges goal cut n (pass edges goal cut come)
theorem passes_grow {edges : List (Tx × Tx)} {goal : Tx} {cut : List Tx} : ∀ (n : Nat) (come : List Tx), (∀ a b, (a, b) ∈ edges → a ∈ passes edges goal cut n come → b ≠ goal → b ∉ cut → b ∈ passes edges goal cut n come) ∨ come.length + n ≤ (passes edges goal cut n come).length
  | 0, come => .inr (Nat.le_refl _)
  | n + 1, come => by
    by_cases hl : (pass edges goal cut come).length = come.length
    · have hc := pass_same hl
      have hf := pass_fix hc
      rcases passes_grow n (pass edges goal cut come) with h | h
      · exact .inl h
      · left
        have e : passes edges goal cut (n + 1) come = come := by
          show passes edges goal cut n (pass edges goal cut come) = come
          rw [hf]
          clear h hl
          induction n with
          | zero => rfl
          | succ n ih =>
            show passes edges goal cut n (pass edges goal cut come) = come
            rw [hf]
            exact ih
        rw [e]
        exact hc
    · have h1 := pass_len (edges := edges) (goal := goal) (cut := cut) (come := come)
      rcases passes_grow n (pass edges goal cut come) with h | h
      · exact .inl h
      · right
        show come.length + (n + 1) ≤ (passes edges goal cut n (pass edges goal cut come)).length
        omega
theorem passes_keep {edges : List (Tx × Tx)} {goal : Tx} {cut : List Tx} : ∀ (n : Nat) (come : List Tx), (∀ x ∈ come, x ∈ passes edges goal cut n come) ∧ (come.Nodup → (passes edges goal cut n come).Nodup)
  | 0, come => ⟨fun x h => h, fun h => h⟩
  | n + 1, come => by
    obtain ⟨h1, h2⟩ := passes_keep n (pass edges goal cut come)
    exact ⟨fun x h => h1 x (pass_mono h), fun h => h2 (pass_nodup h)⟩
theorem passes_reach {edges : List (Tx × Tx)} {starts : List Tx} {goal : Tx} {cut : List Tx} : ∀ (n : Nat) (come : List Tx), (∀ x ∈ come, Reach edges starts goal cut x) → ∀ x ∈ passes edges goal cut n come, Reach edges starts goal cut x
  | 0, come, h => h
  | n + 1, come, h => passes_reach n _ (pass_reach (fun e he => he) h)
/-- ten passes find all, of nine names -/
theorem passes_all {edges : List (Tx × Tx)} {starts names : List Tx} {goal : Tx} {cut come : List Tx} (hn : names.length ≤ 9) (hs : ∀ x ∈ starts, x ∈ names) (he : ∀ a b, (a, b) ∈ edges → b ∈ names) (nd : come.Nodup) (h0 : ∀ x ∈ starts, x ≠ goal → x ∉ cut → x ∈ come) (h1 : ∀ x ∈ come, Reach edges starts goal cut x) (x : Tx) :
    x ∈ passes edges goal cut 10 come ↔ Reach edges starts goal cut x := by
  constructor
  · exact passes_reach 10 come h1 x
  · intro h
    obtain ⟨k1, k2⟩ := passes_keep (edges := edges) (goal := goal) (cut := cut) 10 come
    rcases passes_grow (edges := edges) (goal := goal) (cut := cut) 10 come with hc | hl
    · exact reach_closed (fun x hx g c => k1 x (h0 x hx g c)) hc h
    · have := nodup_le (k2 nd) (m := names) fun y hy => reach_names hs he (passes_reach 10 come h1 y hy)
      omega
end VI

/-! Wb: how the web laws (k10 .. k24) draw their names, edges, starts: for any table that has these defs (plain). -/
namespace VI
def W_mixed : Fn := ⟨2, 3,
 (.cons (.asg (.var 2) (.bin .mod false (.bin .add false (.bin .mul false (.bin .mod false (.var 0) (.cst (.int 2147483647))) (.cst (.int 48271))) (.bin .mul false (.bin .add false (.bin .add false (.bin .mul false (.var 1) (.var 1)) (.bin .mul false (.cst (.int 3)) (.var 1))) (.cst (.int 7))) (.cst (.int 69621)))) (.cst (.int 2147483647))))
 (.cons (.ret (.bin .mod false (.bin .mul false (.var 2) (.var 2)) (.cst (.int 2147483647))))
 .nil))⟩
def W_names_1 : IE := (.bin .mul false (.var 3) (.bin .sub false (.var 1) (.var 5)))
def W_names_2 : IE := (.var 3)
def W_names_3 : ISs := (.cons (.asg (.var 9) (.lc true [10] (.var 10) (.range1 (.var 6)) yes W_names_2))
 (.cons (.asgI (.var 9) (.var 7) (.idx (.var 4) (.bin .mod false (.bin .add false (.bin .fdiv false (.var 2) (.cst (.int 4200))) (.bin .mul false (.cst (.int 3)) (.var 5))) (.cst (.int 20)))))
 (.cons (.asgI (.var 9) (.bin .mod false (.bin .add false (.var 7) (.cst (.int 1))) (.var 6)) (.idx (.var 4) (.bin .mod false (.bin .add false (.bin .fdiv false (.var 2) (.cst (.int 84000))) (.bin .fdiv false (.var 5) (.cst (.int 20)))) (.cst (.int 20)))))
 (.cons (.expr (.prim .append false (.cons (.var 8) (.cons (.prim .join false (.cons (.cst (.str [])) (.cons (.var 9) .nil))) .nil))))
 .nil))))
def W_names : Fn := ⟨2, 11,
 (.cons (.asg (.var 2) (.call true "_law_mixed" (.cons (.var 0) (.cons (.cst (.int 3)) .nil))))
 (.cons (.asg (.var 3) (.idx (.cst (.str [97, 98, 99, 100, 101, 102, 103, 104, 105, 106, 107, 108, 109, 110, 112, 113, 114, 115, 116, 118, 119, 120, 121, 122])) (.bin .mod false (.var 2) (.cst (.int 24)))))
 (.cons (.asg (.var 4) (.cst (.str [98, 99, 100, 102, 103, 104, 106, 107, 108, 109, 110, 112, 113, 114, 115, 116, 118, 119, 120, 122])))
 (.cons (.ifS (.andE (.cmp .eq (.bin .mod false (.bin .fdiv false (.var 2) (.cst (.int 25))) (.cst (.int 3))) (.cst (.int 0))) (.cmp .lt (.var 1) (.cst (.int 9))))
 (.cons (.ret (.lc false [5] (.var 5) (.range1 (.var 1)) yes W_names_1))
 .nil)
 .nil)
 (.cons (.asg (.var 6) (.bin .add false (.cst (.int 2)) (.bin .mod false (.bin .fdiv false (.var 2) (.cst (.int 75))) (.cst (.int 7)))))
 (.cons (.asg (.var 7) (.bin .mod false (.bin .fdiv false (.var 2) (.cst (.int 525))) (.var 6)))
 (.cons (.asg (.var 8) (.lst true .nil))
 (.cons (.forS (.var 5) (.range1 (.var 1)) W_names_3)
 (.cons (.ret (.var 8))
 .nil)))))))))⟩
def W_fold_1 : ISs := (.cons (.asg (.var 1) (.bin .mod false (.bin .add false (.bin .add false (.bin .mul false (.var 1) (.cst (.int 1000003))) (.var 2)) (.cst (.int 1))) (.cst (.int 2147483647))))
 .nil)
def W_fold : Fn := ⟨1, 3,
 (.cons (.asg (.var 1) (.cst (.int 0)))
 (.cons (.forS (.var 2) (.seq (.var 0)) W_fold_1)
 (.cons (.ret (.var 1))
 .nil)))⟩
def W_web_1 : ISs := (.cons (.asg (.var 9) (.call true "_law_mixed" (.cons (.bin .add false (.var 2) (.var 7)) (.cons (.bin .add false (.bin .add false (.bin .mul false (.cst (.int 2)) (.var 6)) (.var 8)) (.cst (.int 20))) .nil))))
 (.cons (.asg (.var 10) (.bin .mod false (.var 9) (.prim .len false (.cons (.var 4) .nil))))
 (.cons (.asg (.var 11) (.bin .mod false (.bin .fdiv false (.var 9) (.cst (.int 16))) (.prim .len false (.cons (.var 4) .nil))))
 (.cons (.ifS (.cmp .gt (.bin .mod false (.bin .fdiv false (.var 3) (.cst (.int 9))) (.cst (.int 3))) (.cst (.int 0)))
 (.cons (.asg (.var 11) (.bin .mod false (.bin .add false (.bin .add false (.var 10) (.cst (.int 1))) (.bin .mod false (.bin .fdiv false (.var 9) (.cst (.int 16))) (.cst (.int 3)))) (.prim .len false (.cons (.var 4) .nil))))
 .nil)
 .nil)
 (.cons (.ifS (.cmp .eq (.bin .mod false (.bin .fdiv false (.var 9) (.cst (.int 256))) (.idx (.lst false (.cons (.cst (.int 1)) (.cons (.cst (.int 2)) (.cons (.cst (.int 4)) .nil)))) (.bin .mod false (.bin .fdiv false (.var 3) (.cst (.int 27))) (.cst (.int 3))))) (.cst (.int 0)))
 (.cons (.expr (.prim .append false (.cons (.var 5) (.cons (.tup (.cons (.idx (.var 4) (.var 10)) (.cons (.idx (.var 4) (.var 11)) .nil))) .nil))))
 .nil)
 .nil)
 .nil)))))
def W_web_2 : ISs := (.cons (.forS (.var 8) (.range1 (.bin .add false (.cst (.int 1)) (.bin .mod false (.bin .fdiv false (.var 3) (.cst (.int 5000))) (.cst (.int 2))))) W_web_1)
 .nil)
def W_web_3 : ISs := (.cons (.ifS (.cmp .eq (.bin .mod false (.call true "_law_mixed" (.cons (.var 2) (.cons (.bin .add false (.cst (.int 200)) (.var 6)) .nil))) (.idx (.lst false (.cons (.cst (.int 2)) (.cons (.cst (.int 3)) (.cons (.cst (.int 2)) (.cons (.cst (.int 6)) .nil))))) (.bin .mod false (.bin .fdiv false (.var 3) (.cst (.int 81))) (.cst (.int 4))))) (.cst (.int 0)))
 (.cons (.expr (.prim .append false (.cons (.var 12) (.cons (.var 13) .nil))))
 .nil)
 .nil)
 .nil)
def W_web : Fn := ⟨2, 14,
 (.cons (.asg (.var 2) (.call true "_law_fold" (.cons (.var 0) .nil)))
 (.cons (.asg (.var 3) (.call true "_law_mixed" (.cons (.var 2) (.cons (.cst (.int 1)) .nil))))
 (.cons (.asg (.var 4) (.call true "_law_names" (.cons (.var 2) (.cons (.bin .add false (.cst (.int 2)) (.bin .mod false (.var 3) (.bin .sub false (.var 1) (.cst (.int 1))))) .nil))))
 (.cons (.asg (.var 5) (.lst true .nil))
 (.cons (.forS (.tup [6, 7]) (.enum (.slc false (.var 0) (.cst .non) (.cst (.int 63))) 0) W_web_2)
 (.cons (.asg (.var 12) (.lst true .nil))
 (.cons (.forS (.tup [6, 13]) (.enum (.var 4) 0) W_web_3)
 (.cons (.ifS (.cmp .eq (.bin .mod false (.bin .fdiv false (.var 3) (.cst (.int 324))) (.cst (.int 4))) (.cst (.int 0)))
 (.cons (.asg (.var 12) (.bin .add true (.var 12) (.slc false (.var 12) (.cst .non) (.cst (.int 1)))))
 .nil)
 .nil)
 (.cons (.ret (.tup (.cons (.var 4) (.cons (.var 5) (.cons (.var 12) (.cons (.idx (.var 4) (.bin .mod false (.bin .fdiv false (.var 3) (.cst (.int 1296))) (.prim .len false (.cons (.var 4) .nil)))) .nil))))))
 .nil)))))))))⟩
/-! ### numbers -/
theorem bits64 {i : Int} (h0 : 0 ≤ i) (h : i < 9223372036854775808) : bits i ≤ 64 := by
  unfold bits
  split
  · omega
  · have : i.natAbs.log2 < 63 := (Nat.log2_lt (by omega)).mpr (by omega)
    omega
theorem mulOk_l {i j : Int} (h0 : 0 ≤ i) (h : i < 9223372036854775808) : mulOk i j = true := by
  unfold mulOk
  simp [bits64 h0 h]
theorem mulOk_r {i j : Int} (h0 : 0 ≤ j) (h : j < 9223372036854775808) : mulOk i j = true := by
  unfold mulOk
  simp [bits64 h0 h]
theorem emod_p (a : Int) : 0 ≤ a % 2147483647 ∧ a % 2147483647 < 2147483647 := ⟨Int.emod_nonneg _ (by decide), Int.emod_lt_of_pos _ (by decide)⟩
section
variable {Γ : Tab}
theorem w_mixed (hΓ : Γ "_law_mixed" = some W_mixed) (d : Nat) (U : Store) (c k : Int) (h0 : 0 ≤ k) (h : k < 1000000000) : ∃ m : Int, 0 ≤ m ∧ m < 2147483647 ∧ run Γ (d + 1) "_law_mixed" [.int c, .int k] U = some (.ok (.int m) U) := by
  have q1 := emod_p c
  have b1 : mulOk (c % 2147483647) 48271 = true := mulOk_r (by decide) (by decide)
  have b2 : mulOk k k = true := mulOk_l h0 (by omega)
  have b3 : mulOk 3 k = true := mulOk_l (by decide) (by decide)
  have b4 : mulOk (k * k + 3 * k + 7) 69621 = true := mulOk_r (by decide) (by decide)
  generalize hm : (c % 2147483647 * 48271 + (k * k + 3 * k + 7) * 69621) % 2147483647 = m
  have q2 := emod_p (c % 2147483647 * 48271 + (k * k + 3 * k + 7) * 69621)
  rw [hm] at q2
  have b5 : mulOk m m = true := mulOk_l q2.1 (by omega)
  have q3 := emod_p (m * m)
  refine ⟨m * m % 2147483647, q3.1, q3.2, ?_⟩
  rw [run_at hΓ rfl]
  simp only [W_mixed, startR, execs, exec, ev]
  simp [asgT, binop, addOp, mulOp, b1, b2, b3, b4, hm, b5]
theorem w_fold (hΓ : Γ "_law_fold" = some W_fold) (d : Nat) (U : Store) (ns : List Int) : ∃ m : Int, 0 ≤ m ∧ m < 2147483647 ∧ run Γ (d + 1) "_law_fold" [.lst (ns.map .int)] U = some (.ok (.int m) U) := by
  have key := forL_inv (turn := turnF (.var 2) (execs (run Γ d) W_fold_1)) (U := U) (fun _ ρ => ∃ n o, 0 ≤ n ∧ n < 2147483647 ∧ ρ = [some (.lst (ns.map .int)), some (.int n), o]) (ns.map .int) [] [some (.lst (ns.map .int)), some (.int 0), none] ⟨0, none, by decide, by decide, rfl⟩ fun dn x r ρ e h => by
    obtain ⟨n, o, h0, h1, rfl⟩ := h
    obtain ⟨i, hi, rfl⟩ : ∃ i, i ∈ ns ∧ x = .int i := by
      have : x ∈ ns.map D.int := by rw [show ns.map D.int = dn ++ x :: r from by simpa using e]; simp
      obtain ⟨i, h1, h2⟩ := List.mem_map.mp this
      exact ⟨i, h1, h2.symm⟩
    have b : mulOk n 1000003 = true := mulOk_r (by decide) (by decide)
    have q := emod_p (n * 1000003 + i + 1)
    refine ⟨_, ?_, (n * 1000003 + i + 1) % 2147483647, some (.int i), q.1, q.2, rfl⟩
    simp only [turnF, asgT, W_fold_1, execs, exec, ev]
    simp [binop, addOp, mulOp, b, asgT]
  obtain ⟨ρ, e, n, o, h0, h1, rfl⟩ := key
  refine ⟨n, h0, h1, ?_⟩
  rw [run_at hΓ rfl]
  simp only [W_fold, startR, execs, exec, ev]
  simp [asgT, evIt, ev, srcOf, forGo_fix, e, execs, exec]
/-! ### lists of one-sign texts -/
def ones (cs : Tx) : List D := cs.map fun c => .str [c]
theorem texts_ones (cs : Tx) : texts (ones cs) = some (cs.map fun c => [c]) := by
  induction cs with
  | nil => rfl
  | cons c r ih =>
    simp only [ones, List.map_cons, texts] at ih ⊢
    rw [ih]
theorem join_ones : ∀ cs : Tx, joinT [] (cs.map fun c => [c]) = cs
  | [] => rfl
  | [x] => rfl
  | x :: y :: r => by
    have := join_ones (y :: r)
    simp only [List.map_cons] at this ⊢
    rw [joinT, this]
    rfl
theorem sum_ones (cs : Tx) : ((cs.map fun c => [c]).map (·.length)).sum = cs.length := by
  induction cs with
  | nil => rfl
  | cons c r ih => simp only [List.map_cons, List.sum_cons, ih, List.length_cons, List.length_nil]; omega
theorem ones_set (cs : Tx) (i : Nat) (c : Nat) : (ones cs).set i (.str [c]) = ones (cs.set i c) := by
  unfold ones
  rw [List.map_set]
theorem atI_lt {α : Type} {xs : List α} {i : Int} (h0 : 0 ≤ i) (h1 : i < xs.length) : ∃ (h : i.toNat < xs.length), atI xs i = some xs[i.toNat] := by
  have hj : i.toNat < xs.length := by omega
  refine ⟨hj, ?_⟩
  unfold atI ixN
  rw [if_pos h0, if_pos h1]
  simp [hj]
theorem idx_str {x : Tx} {i : Int} {U : Store} (h0 : 0 ≤ i) (h1 : i < x.length) (hz : x.length ≤ SZ) : ∃ (h : i.toNat < x.length), index1 (.str x) (.int i) U = some (.ok (.str [x[i.toNat]]) U) := by
  obtain ⟨h, e⟩ := atI_lt h0 h1
  exact ⟨h, by simp [index1, hz, e]⟩
def L24 : Tx := [97, 98, 99, 100, 101, 102, 103, 104, 105, 106, 107, 108, 109, 110, 112, 113, 114, 115, 116, 118, 119, 120, 121, 122]
def L20 : Tx := [98, 99, 100, 102, 103, 104, 106, 107, 108, 109, 110, 112, 113, 114, 115, 116, 118, 119, 120, 122]
def sgA (m k : Int) : Nat := L20.getD ((m / 4200 + 3 * k) % 20).toNat 0
def sgB (m k : Int) : Nat := L20.getD ((m / 84000 + k / 20) % 20).toNat 0
def nmB (b : Nat) (m size at_ k : Int) : Tx := ((List.replicate size.toNat b).set at_.toNat (sgA m k)).set ((at_ + 1) % size).toNat (sgB m k)
structure NR (ρ : Rho) (many m size at_ : Int) (b r : Nat) : Prop where
  len : ρ.length = 11
  h1 : ρ[1]? = some (some (.int many))
  h2 : ρ[2]? = some (some (.int m))
  h3 : ρ[3]? = some (some (.str [b]))
  h4 : ρ[4]? = some (some (.str L20))
  h6 : ρ[6]? = some (some (.int size))
  h7 : ρ[7]? = some (some (.int at_))
  h8 : ρ[8]? = some (some (.ref r))
theorem NR.set {ρ : Rho} {many m size at_ : Int} {b r i : Nat} {o : Option D} (h : NR ρ many m size at_ b r) (hi : i = 5 ∨ i = 9 ∨ i = 10) : NR (ρ.set i o) many m size at_ b r := by
  have e : ∀ j, j ≠ i → (ρ.set i o)[j]? = ρ[j]? := fun j hj => List.getElem?_set_ne (Ne.symm hj)
  exact ⟨by rw [List.length_set]; exact h.len, by rw [e 1 (by omega)]; exact h.h1, by rw [e 2 (by omega)]; exact h.h2, by rw [e 3 (by omega)]; exact h.h3, by rw [e 4 (by omega)]; exact h.h4, by rw [e 6 (by omega)]; exact h.h6, by rw [e 7 (by omega)]; exact h.h7, by rw [e 8 (by omega)]; exact h.h8⟩
theorem get_end {V : Store} {o : MO} : (V ++ [o])[V.length]? = some o := by simp
theorem upd_end {V : Store} {o o' : MO} : updS (V ++ [o]) V.length o' = V ++ [o'] := by simp [updS]
theorem upd_ahead {V : Store} {o o' : MO} {r : Nat} (h : r < V.length) : updS (V ++ [o]) r o' = updS V r o' ++ [o] := by
  unfold updS
  rw [List.set_append_left _ _ h]
theorem ixN_lt {n : Nat} {i : Int} (h0 : 0 ≤ i) (h1 : i < n) : ixN n i = some i.toNat := by
  unfold ixN
  rw [if_pos h0, if_pos h1]
theorem rangeL_eq (n : Int) : rangeL 0 n = (List.range n.toNat).map fun (k : Nat) => D.int k := by
  unfold rangeL
  simp
theorem bases {C : Cal} {V : Store} {ρ : Rho} {b : Nat} (size : Int) (h3 : ρ[3]? = some (some (.str [b]))) (hl : 10 < ρ.length) :
    lcL (turnL (.var 10) (evB C yes) (ev C W_names_2) (wipe ρ [10])) (rangeL 0 size) V = some (.ok (ones (List.replicate size.toNat b)) V) := by
  rw [rangeL_eq]
  have := lcL_maps (turn := turnL (.var 10) (evB C yes) (ev C W_names_2) (wipe ρ [10])) (U := V) (fun k : Nat => D.int k) (fun _ => D.str [b]) (List.range size.toNat) fun k _ => by
    have e : ((wipe ρ [10]).set 10 (some (.int k)))[3]? = some (some (.str [b])) := by
      rw [List.getElem?_set_ne (by omega)]
      show (ρ.set 10 none)[3]? = _
      rw [List.getElem?_set_ne (by omega)]
      exact h3
    simp only [turnL, asgT, W_names_2, ev, evB_yes, e, bnd_ok]
    rfl
  rw [this]
  congr 2
  unfold ones
  rw [List.map_replicate, List.map_const', List.length_range]
theorem names_turn {C : Cal} {V : Store} {ρ : Rho} {many m size at_ k : Int} {b r : Nat} {out : List Tx} (h : NR ρ many m size at_ b r) (h5 : ρ[5]? = some (some (.int k))) (hV : V[r]? = some (.lst (out.map .str))) (ho : out.length < SZ)
    (m0 : 0 ≤ m) (k0 : 0 ≤ k) (k1 : k < 20) (s0 : 2 ≤ size) (s1 : size ≤ 8) (a0 : 0 ≤ at_) (a1 : at_ < size) :
    ∃ o J, execs C W_names_3 ρ V = some (.nx (ρ.set 9 o) (updS V r (.lst ((out ++ [nmB b m size at_ k]).map .str)) ++ [J])) := by
  have hr : r < V.length := (List.getElem?_eq_some_iff.mp hV).1
  have e1 : exec C (.asg (.var 9) (.lc true [10] (.var 10) (.range1 (.var 6)) yes W_names_2)) ρ V = some (.nx (ρ.set 9 (some (.ref V.length))) (V ++ [.lst (ones (List.replicate size.toNat b))])) := by
    have sm : small size = true := by unfold small; simp; omega
    have hz : ¬ SZ < (fixS (rangeL 0 size)).get.length := by
      have : (8 : Nat) ≤ SZ := by decide
      rw [fixS_len, rangeL_eq]
      simp
      omega
    simp only [exec, ev, evIt, h.h6, bnd_ok, sm, if_true, hz, if_false, lcGo_fix, bases (C := C) (V := V) size h.h3 (by rw [h.len]; decide), fixS_fin, mkL, bndS_ok, asgT]
  have n := h.set (i := 9) (o := some (.ref V.length)) (by omega)
  have h9 : (ρ.set 9 (some (D.ref V.length)))[9]? = some (some (.ref V.length)) := by
    rw [List.getElem?_set_self (by rw [h.len]; decide)]
  have h5' : (ρ.set 9 (some (D.ref V.length)))[5]? = some (some (.int k)) := by
    rw [List.getElem?_set_ne (by decide)]
    exact h5
  have d1 : divOk 4200 = true := by decide +kernel
  have d2 : divOk 84000 = true := by decide +kernel
  have d3 : divOk 20 = true := by decide +kernel
  have b1 : mulOk 3 k = true := mulOk_l (by decide) (by decide)
  have q1 : 0 ≤ (m / 4200 + 3 * k) % 20 ∧ (m / 4200 + 3 * k) % 20 < 20 := ⟨Int.emod_nonneg _ (by decide), Int.emod_lt_of_pos _ (by decide)⟩
  have q2 : 0 ≤ (m / 84000 + k / 20) % 20 ∧ (m / 84000 + k / 20) % 20 < 20 := ⟨Int.emod_nonneg _ (by decide), Int.emod_lt_of_pos _ (by decide)⟩
  have q3 : 0 ≤ (at_ + 1) % size ∧ (at_ + 1) % size < size := ⟨Int.emod_nonneg _ (by omega), Int.emod_lt_of_pos _ (by omega)⟩
  have l20 : L20.length = 20 := rfl
  have zl : L20.length ≤ SZ := by decide
  obtain ⟨p1, i1⟩ := idx_str (x := L20) (i := (m / 4200 + 3 * k) % 20) (U := V ++ [.lst (ones (List.replicate size.toNat b))]) q1.1 (by rw [l20]; exact q1.2) zl
  have g1 : L20[((m / 4200 + 3 * k) % 20).toNat] = sgA m k := by unfold sgA; rw [List.getD_eq_getElem?_getD, List.getElem?_eq_getElem p1]; rfl
  rw [g1] at i1
  have e2 : exec C (.asgI (.var 9) (.var 7) (.idx (.var 4) (.bin .mod false (.bin .add false (.bin .fdiv false (.var 2) (.cst (.int 4200))) (.bin .mul false (.cst (.int 3)) (.var 5))) (.cst (.int 20))))) (ρ.set 9 (some (.ref V.length))) (V ++ [.lst (ones (List.replicate size.toNat b))]) =
      some (.nx (ρ.set 9 (some (.ref V.length))) (V ++ [.lst (ones ((List.replicate size.toNat b).set at_.toNat (sgA m k)))])) := by
    simp only [exec, ev, n.h4, n.h2, h5', bnd_ok, binop, addOp, mulOp, d1, b1, if_true, show (0 : Int) < 20 by decide, i1, bndS_ok, h9, n.h7, setIx, get_end]
    rw [ixN_lt a0 (by simp [ones]; omega)]
    simp only [upd_end, ones_set, bndS_ok]
  obtain ⟨p2, i2⟩ := idx_str (x := L20) (i := (m / 84000 + k / 20) % 20) (U := V ++ [.lst (ones ((List.replicate size.toNat b).set at_.toNat (sgA m k)))]) q2.1 (by rw [l20]; exact q2.2) zl
  have g2 : L20[((m / 84000 + k / 20) % 20).toNat] = sgB m k := by unfold sgB; rw [List.getD_eq_getElem?_getD, List.getElem?_eq_getElem p2]; rfl
  rw [g2] at i2
  have e3 : exec C (.asgI (.var 9) (.bin .mod false (.bin .add false (.var 7) (.cst (.int 1))) (.var 6)) (.idx (.var 4) (.bin .mod false (.bin .add false (.bin .fdiv false (.var 2) (.cst (.int 84000))) (.bin .fdiv false (.var 5) (.cst (.int 20)))) (.cst (.int 20))))) (ρ.set 9 (some (.ref V.length))) (V ++ [.lst (ones ((List.replicate size.toNat b).set at_.toNat (sgA m k)))]) =
      some (.nx (ρ.set 9 (some (.ref V.length))) (V ++ [.lst (ones (nmB b m size at_ k))])) := by
    simp only [exec, ev, n.h4, n.h2, h5', bnd_ok, binop, addOp, d2, d3, if_true, show (0 : Int) < 20 by decide, i2, bndS_ok, h9, n.h7, n.h6, show (0 : Int) < size by omega, setIx, get_end]
    rw [ixN_lt q3.1 (by simp [ones]; omega)]
    simp only [upd_end, ones_set, bndS_ok]
    rfl
  have lname : (nmB b m size at_ k).length = size.toNat := by simp [nmB]
  have e4 : exec C (.expr (.prim .append false (.cons (.var 8) (.cons (.prim .join false (.cons (.cst (.str [])) (.cons (.var 9) .nil))) .nil)))) (ρ.set 9 (some (.ref V.length))) (V ++ [.lst (ones (nmB b m size at_ k))]) =
      some (.nx (ρ.set 9 (some (.ref V.length))) (updS V r (.lst ((out ++ [nmB b m size at_ k]).map .str)) ++ [.lst (ones (nmB b m size at_ k))])) := by
    have hV2 : (V ++ [MO.lst (ones (nmB b m size at_ k))])[r]? = some (.lst (out.map .str)) := by rw [List.getElem?_append_left hr, hV]
    have hz : ((nmB b m size at_ k).map fun c => [c]).length * 0 + (nmB b m size at_ k).length ≤ SZ := by
      have : (8 : Nat) ≤ SZ := by decide
      rw [lname]
      omega
    have hz2 : (((nmB b m size at_ k).map fun c => [c]).map (·.length)).sum + ((nmB b m size at_ k).map fun c => [c]).length * ([] : Tx).length ≤ SZ := by
      rw [sum_ones]
      simp only [List.length_nil, Nat.mul_zero, Nat.add_zero, lname]
      have : (8 : Nat) ≤ SZ := by decide
      omega
    have hj : prim .join false [.str [], .ref V.length] (V ++ [MO.lst (ones (nmB b m size at_ k))]) = some (.ok (.str (nmB b m size at_ k)) (V ++ [MO.lst (ones (nmB b m size at_ k))])) := by
      simp only [prim, asQ, asL, get_end, texts_ones, hz2, if_true, join_ones]
    have hol : (out.map D.str).length < SZ := by simpa using ho
    have ha : prim .append false [.ref r, .str (nmB b m size at_ k)] (V ++ [MO.lst (ones (nmB b m size at_ k))]) = some (.ok .non (updS V r (.lst ((out ++ [nmB b m size at_ k]).map .str)) ++ [.lst (ones (nmB b m size at_ k))])) := by
      simp only [prim, hV2, hol, if_true, upd_ahead hr, List.map_append, List.map_cons, List.map_nil]
    simp only [exec, ev, evs, n.h8, h9, bnd_ok, recvOk, asL, hV2, Option.isSome_some, if_true, hj, ha, bndS_ok]
  refine ⟨some (.ref V.length), .lst (ones (nmB b m size at_ k)), ?_⟩
  rw [W_names_3, execs, e1, thn_nx, execs, e2, thn_nx, execs, e3, thn_nx, execs, e4, thn_nx, execs]
theorem nodup_by {α β : Type} {f : α → β} {l : List α} (h : l.Nodup) (hf : ∀ a ∈ l, ∀ b ∈ l, f a = f b → a = b) : (l.map f).Nodup := by
  unfold List.Nodup
  rw [List.pairwise_map]
  exact List.Pairwise.imp_of_mem (fun {a b} ha hb hab e => hab (hf a ha b hb e)) h
theorem l20_small (i : Nat) : L20.getD i 0 < 128 := by
  by_cases h : i < 20
  · have : (L20.all fun c => decide (c < 128)) = true := by decide
    rw [List.all_eq_true] at this
    have hl : i < L20.length := h
    rw [List.getD_eq_getElem?_getD, List.getElem?_eq_getElem hl]
    exact of_decide_eq_true (this _ (List.getElem_mem hl))
  · rw [List.getD_eq_getElem?_getD, List.getElem?_eq_none (show L20.length ≤ i from by show 20 ≤ i; omega)]
    decide
theorem l20_inj {i j : Nat} (hi : i < 20) (hj : j < 20) (e : L20.getD i 0 = L20.getD j 0) : i = j := by
  have nd : L20.Nodup := by decide
  have h1 : i < L20.length := hi
  have h2 : j < L20.length := hj
  rw [List.getD_eq_getElem?_getD, List.getD_eq_getElem?_getD, List.getElem?_eq_getElem h1, List.getElem?_eq_getElem h2] at e
  exact (List.getElem_inj nd).mp e
theorem nmB_inj {b : Nat} {m size at_ : Int} {j k : Nat} (s0 : 2 ≤ size) (a0 : 0 ≤ at_) (a1 : at_ < size) (hj : j < 10) (hk : k < 10) (e : nmB b m size at_ j = nmB b m size at_ k) : j = k := by
  have at1 : ∀ k : Int, (nmB b m size at_ k)[at_.toNat]? = some (sgA m k) := fun k => by
    unfold nmB
    have ne : ((at_ + 1) % size).toNat ≠ at_.toNat := by
      by_cases h : at_ + 1 < size
      · rw [Int.emod_eq_of_lt (by omega) h]
        omega
      · have : at_ + 1 = size := by omega
        rw [this, Int.emod_self]
        omega
    rw [List.getElem?_set_ne ne, List.getElem?_set_self (by rw [List.length_replicate]; omega)]
  have e1 : sgA m j = sgA m k := by
    have := at1 j
    rw [e, at1 k] at this
    exact (Option.some.inj this).symm
  unfold sgA at e1
  have q1 : 0 ≤ (m / 4200 + 3 * (j : Int)) % 20 ∧ (m / 4200 + 3 * (j : Int)) % 20 < 20 := ⟨Int.emod_nonneg _ (by decide), Int.emod_lt_of_pos _ (by decide)⟩
  have q2 : 0 ≤ (m / 4200 + 3 * (k : Int)) % 20 ∧ (m / 4200 + 3 * (k : Int)) % 20 < 20 := ⟨Int.emod_nonneg _ (by decide), Int.emod_lt_of_pos _ (by decide)⟩
  have := l20_inj (by omega) (by omega) e1
  omega
theorem nmB_small {b : Nat} {m size at_ k : Int} (hb : b < 128) : ∀ c ∈ nmB b m size at_ k, c < 128 := by
  intro c hc
  unfold nmB at hc
  rcases List.mem_or_eq_of_mem_set hc with hc | rfl
  · rcases List.mem_or_eq_of_mem_set hc with hc | rfl
    · rw [List.eq_of_mem_replicate hc]
      exact hb
    · exact l20_small _
  · exact l20_small _
/-- a good list of names -/
structure Names (names : List Tx) : Prop where
  nd : names.Nodup
  len : ∀ x ∈ names, 1 ≤ x.length ∧ x.length ≤ 10
  sml : ∀ x ∈ names, ∀ c ∈ x, c < 128
theorem closed_strs (ns : List Tx) : closedL (ns.map .str) = true := by
  induction ns with
  | nil => rfl
  | cons x r ih => simp [closedL, closed, ih]
/-- the same tree, behind a reference -/
theorem rs_ref {V : Store} {n₀ n : Nat} {xs : List D} (h : n₀ ≤ n) (hV : V[n]? = some (.lst xs)) (hc : closedL xs = true) : rs V n₀ (.ref n) = some (.lst xs) := by
  have hn : ¬ n < n₀ := by omega
  show rsv V n₀ (subAt V n₀ 8) (.ref n) = _
  simp only [rsv, subAt, hn, if_false, hV, rsvL_closed xs hc, Option.map_some]
theorem frz_ref {U J : Store} {xs : List D} {n : Nat} (h : U.length ≤ n) (hV : (U ++ J)[n]? = some (.lst xs)) (hc : closedL xs = true) : frz true U (some (.ok (.ref n) (U ++ J))) = some (.ok (.lst xs) U) := by
  unfold frz
  simp only [if_true, List.take_left, rs_ref h hV hc]
theorem names_loop {C : Cal} {U : Store} {many m size at_ : Int} {b : Nat} (m0 : 0 ≤ m) (h2 : many ≤ 10) (s0 : 2 ≤ size) (s1 : size ≤ 8) (a0 : 0 ≤ at_) (a1 : at_ < size) : ∀ (xs : List Nat) (out : List Tx) (ρ : Rho) (J : Store), (∀ k ∈ xs, k < 10) → xs.length + out.length < SZ → NR ρ many m size at_ b U.length →
    ∃ ρ' J', forL (turnF (.var 5) (execs C W_names_3)) (xs.map fun (k : Nat) => D.int k) ρ (U ++ .lst (out.map .str) :: J) = some (.nx ρ' (U ++ .lst ((out ++ xs.map fun (k : Nat) => nmB b m size at_ k).map .str) :: J')) ∧ NR ρ' many m size at_ b U.length
  | [], out, ρ, J, _, _, h => ⟨ρ, J, by simp [forL], h⟩
  | k :: r, out, ρ, J, hx, hz, h => by
    have hk := hx k (by simp)
    have n5 : NR (ρ.set 5 (some (.int k))) many m size at_ b U.length := h.set (by omega)
    obtain ⟨o, J1, e⟩ := names_turn (C := C) (V := U ++ .lst (out.map .str) :: J) (k := k) (out := out) n5 (by rw [List.getElem?_set_self (by rw [h.len]; decide)]) (by simp) (by simp at hz; omega) m0 (by omega) (by omega) s0 s1 a0 a1
    have eu : updS (U ++ .lst (out.map .str) :: J) U.length (.lst ((out ++ [nmB b m size at_ k]).map .str)) ++ [J1] = U ++ .lst ((out ++ [nmB b m size at_ k]).map .str) :: (J ++ [J1]) := by
      unfold updS
      rw [List.set_append_right _ _ (Nat.le_refl _)]
      simp
    rw [eu] at e
    obtain ⟨ρ', J', e2, h3⟩ := names_loop m0 h2 s0 s1 a0 a1 r (out ++ [nmB b m size at_ k]) _ (J ++ [J1]) (fun j hj => hx j (by simp [hj])) (by simp at hz ⊢; omega) (n5.set (i := 9) (o := o) (by omega))
    refine ⟨ρ', J', ?_, h3⟩
    rw [List.map_cons, forL]
    show turnEnd (execs C W_names_3 (ρ.set 5 (some (.int k))) _) _ = _
    rw [e, turnEnd_nx, e2]
    simp [List.append_assoc]
theorem w_names (hm : Γ "_law_mixed" = some W_mixed) (hn : Γ "_law_names" = some W_names) (d : Nat) (U : Store) (c many : Int) (h2 : 2 ≤ many) (h10 : many ≤ 10) :
    ∃ names : List Tx, names.length = many.toNat ∧ Names names ∧ frz true U (run Γ (d + 2) "_law_names" [.int c, .int many] U) = some (.ok (.lst (names.map .str)) U) := by
  obtain ⟨m, m0, m1, em⟩ := w_mixed hm d U c 3 (by decide) (by decide)
  have z24 : L24.length ≤ SZ := by decide
  have q24 : 0 ≤ m % 24 ∧ m % 24 < 24 := ⟨Int.emod_nonneg _ (by decide), Int.emod_lt_of_pos _ (by decide)⟩
  obtain ⟨pb, ib⟩ := idx_str (x := L24) (i := m % 24) (U := U) q24.1 q24.2 z24
  have hb : L24[(m % 24).toNat] < 128 := by
    have : (L24.all fun c => decide (c < 128)) = true := by decide
    rw [List.all_eq_true] at this
    exact of_decide_eq_true (this _ (List.getElem_mem pb))
  generalize hbb : L24[(m % 24).toNat] = b at ib hb
  have d1 : divOk 25 = true := by decide +kernel
  have d2 : divOk 75 = true := by decide +kernel
  have d3 : divOk 525 = true := by decide +kernel
  have q7 : 0 ≤ m / 75 % 7 ∧ m / 75 % 7 < 7 := ⟨Int.emod_nonneg _ (by decide), Int.emod_lt_of_pos _ (by decide)⟩
  have qs : 0 ≤ m / 525 % (2 + m / 75 % 7) ∧ m / 525 % (2 + m / 75 % 7) < 2 + m / 75 % 7 := ⟨Int.emod_nonneg _ (by omega), Int.emod_lt_of_pos _ (by omega)⟩
  have sm : small many = true := by unfold small; simp; omega
  have hmm : frz true U (run Γ (d + 1) "_law_mixed" [.int c, .int 3] U) = some (.ok (.int m) U) := by rw [em, frz_int]
  have i24 : ([97, 98, 99, 100, 101, 102, 103, 104, 105, 106, 107, 108, 109, 110, 112, 113, 114, 115, 116, 118, 119, 120, 121, 122] : Tx) = L24 := rfl
  have i20 : ([98, 99, 100, 102, 103, 104, 106, 107, 108, 109, 110, 112, 113, 114, 115, 116, 118, 119, 120, 122] : Tx) = L20 := rfl
  by_cases hc : m / 25 % 3 = 0 ∧ many < 9
  · refine ⟨(List.range many.toNat).map fun (k : Nat) => List.replicate (many - k).toNat b, by simp, ⟨nodup_by List.nodup_range fun i hi j hj e => ?_, fun x hx => ?_, fun x hx => ?_⟩, ?_⟩
    · have := congrArg List.length e
      simp only [List.length_replicate] at this
      have := List.mem_range.mp hi
      have := List.mem_range.mp hj
      omega
    · obtain ⟨k, hk, rfl⟩ := List.mem_map.mp hx
      have := List.mem_range.mp hk
      simp only [List.length_replicate]
      omega
    · obtain ⟨k, hk, rfl⟩ := List.mem_map.mp hx
      intro c hc
      rw [List.eq_of_mem_replicate hc]
      exact hb
    · have hl : lcL (turnL (.var 5) (evB (run Γ (d + 1)) yes) (ev (run Γ (d + 1)) W_names_1) (wipe [some (.int c), some (.int many), some (.int m), some (.str [b]), some (.str L20), none, none, none, none, none, none] [5])) (rangeL 0 many) U = some (.ok ((List.range many.toNat).map fun (k : Nat) => D.str (List.replicate (many - k).toNat b)) U) := by
        rw [rangeL_eq]
        refine lcL_maps _ _ _ fun k hk => ?_
        have := List.mem_range.mp hk
        have hz : -1000000 ≤ many - (k : Int) ∧ many - (k : Int) ≤ 1000000 ∧ ([b] : Tx).length * (many - (k : Int)).toNat ≤ SZ := by
          have : (10 : Nat) ≤ SZ := by decide
          simp only [List.length_singleton]
          omega
        have fl : (List.replicate (many - (k : Int)).toNat [b]).flatten = List.replicate (many - (k : Int)).toNat b := by simp
        simp only [turnL, asgT, W_names_1, wipe, List.set_cons_succ, List.set_cons_zero, evB_yes, bnd_ok, ev, List.getElem?_cons_succ, List.getElem?_cons_zero, binop, mulOp, if_pos hz, fl, if_true, ret_eq, noEx_ok]
      have hz : ¬ SZ < (fixS (rangeL 0 many)).get.length := by
        have : (10 : Nat) ≤ SZ := by decide
        rw [fixS_len, rangeL_eq]
        simp
        omega
      have e0 : run Γ (d + 2) "_law_names" [.int c, .int many] U = some (.ok (.lst (((List.range many.toNat).map fun (k : Nat) => List.replicate (many - k).toNat b).map .str)) U) := by
        rw [run_at hn rfl]
        simp only [W_names, startR, execs, exec, ev, evs, i24, i20]
        simp [asgT, hmm, binop, ib, execs, exec, ev, evs, evB, d1, hc.1, hc.2, cmp_eq_int, cmp_lt_int, tru_bl, evIt, sm, lcGo_fix, hl, hz, mkL]
        have : ¬ SZ < (rangeL 0 many).length := by simpa using hz
        simp [this]
      rw [e0]
      exact frz_closed (by simp only [closed]; exact closed_strs _)
  · refine ⟨(List.range many.toNat).map fun (k : Nat) => nmB b m (2 + m / 75 % 7) (m / 525 % (2 + m / 75 % 7)) k, by simp, ⟨nodup_by List.nodup_range fun i hi j hj e => ?_, fun x hx => ?_, fun x hx => ?_⟩, ?_⟩
    · have := List.mem_range.mp hi
      have := List.mem_range.mp hj
      exact nmB_inj (by omega) qs.1 qs.2 (by omega) (by omega) e
    · obtain ⟨k, hk, rfl⟩ := List.mem_map.mp hx
      simp only [nmB, List.length_set, List.length_replicate]
      omega
    · obtain ⟨k, hk, rfl⟩ := List.mem_map.mp hx
      exact nmB_small hb
    · obtain ⟨ρ', J', e, n⟩ := names_loop (C := run Γ (d + 1)) (U := U) (many := many) (m := m) (size := 2 + m / 75 % 7) (at_ := m / 525 % (2 + m / 75 % 7)) (b := b) m0 h10 (by omega) (by omega) qs.1 qs.2 (List.range many.toNat) []
        [some (.int c), some (.int many), some (.int m), some (.str [b]), some (.str L20), none, some (.int (2 + m / 75 % 7)), some (.int (m / 525 % (2 + m / 75 % 7))), some (.ref U.length), none, none] [] (fun k hk => by have := List.mem_range.mp hk; omega) (by
          have : (10 : Nat) < SZ := by decide
          simp
          omega) ⟨rfl, rfl, rfl, rfl, rfl, rfl, rfl, rfl⟩
      have cnd : (decide (m / 25 % 3 = 0) && decide (many < 9)) = false := by
        rw [Bool.eq_false_iff]
        intro z
        simp only [Bool.and_eq_true, decide_eq_true_eq] at z
        exact hc z
      have e0 : run Γ (d + 2) "_law_names" [.int c, .int many] U = some (.ok (.ref U.length) (U ++ .lst (((List.range many.toNat).map fun (k : Nat) => nmB b m (2 + m / 75 % 7) (m / 525 % (2 + m / 75 % 7)) k).map .str) :: J')) := by
        rw [run_at hn rfl]
        simp only [W_names, startR, execs, exec, ev, evs, i24, i20]
        have hs : (0 : Int) < 2 + m / 75 % 7 := by omega
        by_cases c1 : m / 25 % 3 = 0
        · have c2 : ¬ many < 9 := fun z => hc ⟨c1, z⟩
          simp [asgT, hmm, binop, addOp, ib, execs, exec, ev, evs, evB, d1, d2, d3, c1, c2, cmp_eq_int, cmp_lt_int, tru_bl, mkL, hs, evIt, sm, forGo_fix]
          rw [rangeL_eq]
          rw [List.map_nil, List.nil_append] at e
          rw [e]
          simp [execs, exec, ev, n.h8]
        · simp [asgT, hmm, binop, addOp, ib, execs, exec, ev, evs, evB, d1, d2, d3, c1, cmp_eq_int, cmp_lt_int, tru_bl, mkL, hs, evIt, sm, forGo_fix]
          rw [rangeL_eq]
          rw [List.map_nil, List.nil_append] at e
          rw [e]
          simp [execs, exec, ev, n.h8]
      rw [e0]
      exact frz_ref (Nat.le_refl _) (by simp) (closed_strs _)
/-! ### edges, starts -/
def eD (e : Tx × Tx) : D := .tup [.str e.1, .str e.2]
def edD (es : List (Tx × Tx)) : List D := es.map eD
theorem closed_edD (es : List (Tx × Tx)) : closedL (edD es) = true := by
  induction es with
  | nil => rfl
  | cons x r ih =>
    simp only [edD, List.map_cons, closedL, eD, closed, Bool.true_and, Bool.and_true] at ih ⊢
    exact ih
structure WR (ρ : Rho) (seed m : Int) (names : List Tx) (r : Nat) : Prop where
  len : ρ.length = 14
  h2 : ρ[2]? = some (some (.int seed))
  h3 : ρ[3]? = some (some (.int m))
  h4 : ρ[4]? = some (some (.lst (names.map .str)))
  h5 : ρ[5]? = some (some (.ref r))
theorem WR.set {ρ : Rho} {seed m : Int} {names : List Tx} {r i : Nat} {o : Option D} (h : WR ρ seed m names r) (hi : 6 ≤ i) : WR (ρ.set i o) seed m names r := by
  have e : ∀ j, j ≠ i → (ρ.set i o)[j]? = ρ[j]? := fun j hj => List.getElem?_set_ne (Ne.symm hj)
  exact ⟨by rw [List.length_set]; exact h.len, by rw [e 2 (by omega)]; exact h.h2, by rw [e 3 (by omega)]; exact h.h3, by rw [e 4 (by omega)]; exact h.h4, by rw [e 5 (by omega)]; exact h.h5⟩
theorem idx_lst {xs : List Tx} {i : Int} {U : Store} (h0 : 0 ≤ i) (h1 : i < xs.length) : ∃ x ∈ xs, index1 (.lst (xs.map .str)) (.int i) U = some (.ok (.str x) U) := by
  obtain ⟨h, e⟩ := atI_lt (xs := xs.map D.str) h0 (by simpa using h1)
  have h' : i.toNat < xs.length := by simpa using h
  refine ⟨xs[i.toNat], List.getElem_mem h', ?_⟩
  simp [index1, asQ, asL, e]
theorem ix3 (q : Int) (h0 : 0 ≤ q) (h1 : q < 3) : ∃ v : Int, 0 < v ∧ ∀ U, index1 (.lst [.int 1, .int 2, .int 4]) (.int q) U = some (.ok (.int v) U) := by
  have : q = 0 ∨ q = 1 ∨ q = 2 := by omega
  rcases this with rfl | rfl | rfl
  · exact ⟨1, by decide, fun U => rfl⟩
  · exact ⟨2, by decide, fun U => rfl⟩
  · exact ⟨4, by decide, fun U => rfl⟩
theorem ix4 (q : Int) (h0 : 0 ≤ q) (h1 : q < 4) : ∃ v : Int, 0 < v ∧ ∀ U, index1 (.lst [.int 2, .int 3, .int 2, .int 6]) (.int q) U = some (.ok (.int v) U) := by
  have : q = 0 ∨ q = 1 ∨ q = 2 ∨ q = 3 := by omega
  rcases this with rfl | rfl | rfl | rfl
  · exact ⟨2, by decide, fun U => rfl⟩
  · exact ⟨3, by decide, fun U => rfl⟩
  · exact ⟨2, by decide, fun U => rfl⟩
  · exact ⟨6, by decide, fun U => rfl⟩
theorem emodp (a : Int) {n : Int} (h : 0 < n) : 0 ≤ a % n ∧ a % n < n := ⟨Int.emod_nonneg _ (by omega), Int.emod_lt_of_pos _ h⟩
theorem get_set_ne {ρ : Rho} {i j : Nat} {o : Option D} (h : i ≠ j) : (ρ.set i o)[j]? = ρ[j]? := List.getElem?_set_ne h
theorem get_set_eq {ρ : Rho} {i : Nat} {o : Option D} (h : i < ρ.length) : (ρ.set i o)[i]? = some o := List.getElem?_set_self h
theorem web1 (hm : Γ "_law_mixed" = some W_mixed) {d : Nat} {U : Store} {ρ : Rho} {seed m cell : Int} {i j : Nat} {names : List Tx} {es : List (Tx × Tx)} (h : WR ρ seed m names U.length) (hn : 0 < names.length) (hes : es.length < SZ) (hi : i < 1000) (hj : j < 10)
    (h6 : ρ[6]? = some (some (.int i))) (h7 : ρ[7]? = some (some (.int cell))) (h8 : ρ[8]? = some (some (.int j))) :
    ∃ ρ' es', execs (run Γ (d + 1)) W_web_1 ρ (U ++ [.lst (edD es)]) = some (.nx ρ' (U ++ [.lst (edD es')])) ∧ (es' = es ∨ ∃ a ∈ names, ∃ b ∈ names, es' = es ++ [(a, b)]) ∧ WR ρ' seed m names U.length ∧ ρ'[6]? = some (some (.int i)) ∧ ρ'[7]? = some (some (.int cell)) := by
  obtain ⟨n, n0, n1, en⟩ := w_mixed hm d (U ++ [.lst (edD es)]) (seed + cell) (2 * (i : Int) + j + 20) (by omega) (by omega)
  have hmm : frz true (U ++ [.lst (edD es)]) (run Γ (d + 1) "_law_mixed" [.int (seed + cell), .int (2 * (i : Int) + j + 20)] (U ++ [.lst (edD es)])) = some (.ok (.int n) (U ++ [.lst (edD es)])) := by rw [en, frz_int]
  have b2 : mulOk 2 (i : Int) = true := mulOk_l (by decide) (by decide)
  have d16 : divOk 16 = true := by decide +kernel
  have d9 : divOk 9 = true := by decide +kernel
  have d27 : divOk 27 = true := by decide +kernel
  have d256 : divOk 256 = true := by decide +kernel
  have hl : (0 : Int) < (names.length : Int) := by omega
  have e1 : exec (run Γ (d + 1)) (.asg (.var 9) (.call true "_law_mixed" (.cons (.bin .add false (.var 2) (.var 7)) (.cons (.bin .add false (.bin .add false (.bin .mul false (.cst (.int 2)) (.var 6)) (.var 8)) (.cst (.int 20))) .nil)))) ρ (U ++ [.lst (edD es)]) = some (.nx (ρ.set 9 (some (.int n))) (U ++ [.lst (edD es)])) := by
    simp only [exec, ev, evs, h.h2, h6, h7, h8, bnd_ok, binop, addOp, mulOp, b2, if_true, hmm, bndS_ok, asgT]
  generalize hρ1 : ρ.set 9 (some (D.int n)) = ρ1 at e1
  have w1 : WR ρ1 seed m names U.length := by rw [← hρ1]; exact h.set (by omega)
  have g9 : ρ1[9]? = some (some (.int n)) := by rw [← hρ1]; exact get_set_eq (by rw [h.len]; omega)
  have g6 : ρ1[6]? = some (some (.int i)) := by rw [← hρ1, get_set_ne (by omega)]; exact h6
  have g7 : ρ1[7]? = some (some (.int cell)) := by rw [← hρ1, get_set_ne (by omega)]; exact h7
  have ln : lenOf (.lst (names.map .str)) (U ++ [.lst (edD es)]) = some (.ok (.int names.length) (U ++ [.lst (edD es)])) := by simp [lenOf, asQ, asL]
  have e2 : exec (run Γ (d + 1)) (.asg (.var 10) (.bin .mod false (.var 9) (.prim .len false (.cons (.var 4) .nil)))) ρ1 (U ++ [.lst (edD es)]) = some (.nx (ρ1.set 10 (some (.int (n % names.length)))) (U ++ [.lst (edD es)])) := by
    simp only [exec, ev, evs, g9, w1.h4, bnd_ok, recvOk, if_true, prim, ln, binop, hl, bndS_ok, asgT]
  generalize hρ2 : ρ1.set 10 (some (D.int (n % names.length))) = ρ2 at e2
  have w2 : WR ρ2 seed m names U.length := by rw [← hρ2]; exact w1.set (by omega)
  have k9 : ρ2[9]? = some (some (.int n)) := by rw [← hρ2, get_set_ne (by omega)]; exact g9
  have k10 : ρ2[10]? = some (some (.int (n % names.length))) := by rw [← hρ2]; exact get_set_eq (by rw [w1.len]; omega)
  have k6 : ρ2[6]? = some (some (.int i)) := by rw [← hρ2, get_set_ne (by omega)]; exact g6
  have k7 : ρ2[7]? = some (some (.int cell)) := by rw [← hρ2, get_set_ne (by omega)]; exact g7
  have e3 : exec (run Γ (d + 1)) (.asg (.var 11) (.bin .mod false (.bin .fdiv false (.var 9) (.cst (.int 16))) (.prim .len false (.cons (.var 4) .nil)))) ρ2 (U ++ [.lst (edD es)]) = some (.nx (ρ2.set 11 (some (.int (n / 16 % names.length)))) (U ++ [.lst (edD es)])) := by
    simp only [exec, ev, evs, k9, w2.h4, bnd_ok, recvOk, if_true, prim, ln, binop, d16, hl, bndS_ok, asgT]
  generalize hρ3 : ρ2.set 11 (some (D.int (n / 16 % names.length))) = ρ3 at e3
  have w3 : WR ρ3 seed m names U.length := by rw [← hρ3]; exact w2.set (by omega)
  have c9 : ρ3[9]? = some (some (.int n)) := by rw [← hρ3, get_set_ne (by omega)]; exact k9
  have c10 : ρ3[10]? = some (some (.int (n % names.length))) := by rw [← hρ3, get_set_ne (by omega)]; exact k10
  have c11 : ρ3[11]? = some (some (.int (n / 16 % names.length))) := by rw [← hρ3]; exact get_set_eq (by rw [w2.len]; omega)
  have c6 : ρ3[6]? = some (some (.int i)) := by rw [← hρ3, get_set_ne (by omega)]; exact k6
  have c7 : ρ3[7]? = some (some (.int cell)) := by rw [← hρ3, get_set_ne (by omega)]; exact k7
  have e4 : ∃ o ρ4, 0 ≤ o ∧ o < (names.length : Int) ∧ exec (run Γ (d + 1)) (.ifS (.cmp .gt (.bin .mod false (.bin .fdiv false (.var 3) (.cst (.int 9))) (.cst (.int 3))) (.cst (.int 0))) (.cons (.asg (.var 11) (.bin .mod false (.bin .add false (.bin .add false (.var 10) (.cst (.int 1))) (.bin .mod false (.bin .fdiv false (.var 9) (.cst (.int 16))) (.cst (.int 3)))) (.prim .len false (.cons (.var 4) .nil)))) .nil) .nil) ρ3 (U ++ [.lst (edD es)]) = some (.nx ρ4 (U ++ [.lst (edD es)])) ∧
      WR ρ4 seed m names U.length ∧ ρ4[9]? = some (some (.int n)) ∧ ρ4[10]? = some (some (.int (n % names.length))) ∧ ρ4[11]? = some (some (.int o)) ∧ ρ4[6]? = some (some (.int i)) ∧ ρ4[7]? = some (some (.int cell)) := by
    by_cases q : 0 < m / 9 % 3
    · refine ⟨(n % names.length + 1 + n / 16 % 3) % names.length, ρ3.set 11 (some (.int ((n % names.length + 1 + n / 16 % 3) % names.length))), (emodp _ hl).1, (emodp _ hl).2, ?_, w3.set (by omega), by rw [get_set_ne (by omega)]; exact c9, by rw [get_set_ne (by omega)]; exact c10, get_set_eq (by rw [w3.len]; omega), by rw [get_set_ne (by omega)]; exact c6, by rw [get_set_ne (by omega)]; exact c7⟩
      simp only [exec, execs, evB, ev, evs, w3.h3, c9, c10, w3.h4, bnd_ok, recvOk, if_true, prim, ln, binop, addOp, d9, d16, show (0 : Int) < 3 by decide, hl, bndS_ok, asgT, cmp_gt_int, tru_bl, q, decide_true, thn_nx]
    · refine ⟨n / 16 % names.length, ρ3, (emodp _ hl).1, (emodp _ hl).2, ?_, w3, c9, c10, c11, c6, c7⟩
      simp only [exec, execs, evB, ev, evs, w3.h3, bnd_ok, if_true, binop, d9, show (0 : Int) < 3 by decide, bndS_ok, cmp_gt_int, tru_bl, q, decide_false, Bool.false_eq_true, if_false]
  obtain ⟨o, ρ4, o0, o1, e4, w4, f9, f10, f11, f6, f7⟩ := e4
  obtain ⟨v, v0, iv⟩ := ix3 (m / 27 % 3) (emodp _ (by decide)).1 (emodp _ (by decide)).2
  obtain ⟨a, ha, ia⟩ := idx_lst (xs := names) (i := n % names.length) (U := U ++ [.lst (edD es)]) (emodp _ hl).1 (emodp _ hl).2
  obtain ⟨b, hb, ib⟩ := idx_lst (xs := names) (i := o) (U := U ++ [.lst (edD es)]) o0 o1
  have e5 : ∃ es', exec (run Γ (d + 1)) (.ifS (.cmp .eq (.bin .mod false (.bin .fdiv false (.var 9) (.cst (.int 256))) (.idx (.lst false (.cons (.cst (.int 1)) (.cons (.cst (.int 2)) (.cons (.cst (.int 4)) .nil)))) (.bin .mod false (.bin .fdiv false (.var 3) (.cst (.int 27))) (.cst (.int 3))))) (.cst (.int 0))) (.cons (.expr (.prim .append false (.cons (.var 5) (.cons (.tup (.cons (.idx (.var 4) (.var 10)) (.cons (.idx (.var 4) (.var 11)) .nil))) .nil)))) .nil) .nil) ρ4 (U ++ [.lst (edD es)]) = some (.nx ρ4 (U ++ [.lst (edD es')])) ∧ (es' = es ∨ ∃ a ∈ names, ∃ b ∈ names, es' = es ++ [(a, b)]) := by
    by_cases q : n / 256 % v = 0
    · refine ⟨es ++ [(a, b)], ?_, .inr ⟨a, ha, b, hb, rfl⟩⟩
      have hz : (edD es).length < SZ := by simpa [edD] using hes
      have hp : prim .append false [.ref U.length, .tup [.str a, .str b]] (U ++ [.lst (edD es)]) = some (.ok .non (U ++ [.lst (edD (es ++ [(a, b)]))])) := by
        simp only [prim, get_end, hz, if_true, upd_end]
        simp [edD, eD]
      simp only [exec, execs, evB, ev, evs, w4.h3, f9, f10, f11, w4.h4, w4.h5, bnd_ok, recvOk, asL, get_end, Option.isSome_some, if_true, binop, d27, d256, show (0 : Int) < 3 by decide, v0, mkL, Bool.false_eq_true, if_false, iv, ia, ib, hp, bndS_ok, cmp_eq_int, tru_bl, q, decide_true, thn_nx]
    · refine ⟨es, ?_, .inl rfl⟩
      simp only [exec, execs, evB, ev, evs, w4.h3, f9, bnd_ok, if_true, binop, d27, d256, show (0 : Int) < 3 by decide, v0, mkL, Bool.false_eq_true, if_false, iv, bndS_ok, cmp_eq_int, tru_bl, q, decide_false]
  obtain ⟨es', e5, q5⟩ := e5
  exact ⟨ρ4, es', by rw [W_web_1, execs, e1, thn_nx, execs, e2, thn_nx, execs, e3, thn_nx, execs, e4, thn_nx, execs, e5, thn_nx, execs], q5, w4, f6, f7⟩
/-- more edges among the names, at most n -/
def Grows (names : List Tx) (es es' : List (Tx × Tx)) (n : Nat) : Prop := ∃ xs, es' = es ++ xs ∧ xs.length ≤ n ∧ ∀ e ∈ xs, e.1 ∈ names ∧ e.2 ∈ names
theorem Grows.refl {names : List Tx} {es : List (Tx × Tx)} (n : Nat) : Grows names es es n := ⟨[], by simp, by simp, by simp⟩
theorem Grows.trans {names : List Tx} {a b c : List (Tx × Tx)} {m n : Nat} (h : Grows names a b m) (h' : Grows names b c n) : Grows names a c (m + n) := by
  obtain ⟨xs, rfl, l1, q1⟩ := h
  obtain ⟨ys, rfl, l2, q2⟩ := h'
  refine ⟨xs ++ ys, by simp, by simp; omega, fun e he => ?_⟩
  rcases List.mem_append.mp he with he | he
  · exact q1 e he
  · exact q2 e he
theorem Grows.len {names : List Tx} {a b : List (Tx × Tx)} {n : Nat} (h : Grows names a b n) : b.length ≤ a.length + n := by
  obtain ⟨xs, rfl, l1, q1⟩ := h
  simp
  exact l1
theorem web1s (hm : Γ "_law_mixed" = some W_mixed) {d : Nat} {U : Store} {seed m cell : Int} {i : Nat} {names : List Tx} (hn : 0 < names.length) (hi : i < 1000) : ∀ (xs : List Nat) (ρ : Rho) (es : List (Tx × Tx)), (∀ j ∈ xs, j < 10) → WR ρ seed m names U.length → es.length + xs.length < SZ →
    ρ[6]? = some (some (.int i)) → ρ[7]? = some (some (.int cell)) →
    ∃ ρ' es', forL (turnF (.var 8) (execs (run Γ (d + 1)) W_web_1)) (xs.map fun (k : Nat) => D.int k) ρ (U ++ [.lst (edD es)]) = some (.nx ρ' (U ++ [.lst (edD es')])) ∧ Grows names es es' xs.length ∧ WR ρ' seed m names U.length
  | [], ρ, es, _, h, _, _, _ => ⟨ρ, es, rfl, Grows.refl 0, h⟩
  | j :: r, ρ, es, hx, h, hz, h6, h7 => by
    have hj := hx j (by simp)
    obtain ⟨ρ', es', e, q, w, g6, g7⟩ := web1 hm (d := d) (U := U) (ρ := ρ.set 8 (some (.int j))) (es := es) (i := i) (j := j) (h.set (by omega)) hn (by simp at hz; omega) hi hj (by rw [get_set_ne (by omega)]; exact h6) (by rw [get_set_ne (by omega)]; exact h7) (get_set_eq (by rw [h.len]; omega))
    have gr : Grows names es es' 1 := by
      rcases q with rfl | ⟨a, ha, b, hb, rfl⟩
      · exact Grows.refl 1
      · exact ⟨[(a, b)], rfl, by simp, by simp [ha, hb]⟩
    obtain ⟨ρ2, es2, e2, q2, w2⟩ := web1s hm hn hi r ρ' es' (fun k hk => hx k (by simp [hk])) w (by have := gr.len; simp at hz; omega) g6 g7
    refine ⟨ρ2, es2, ?_, by rw [List.length_cons, Nat.add_comm]; exact gr.trans q2, w2⟩
    rw [List.map_cons, forL]
    show turnEnd (execs (run Γ (d + 1)) W_web_1 (ρ.set 8 (some (.int j))) _) _ = _
    rw [e, turnEnd_nx]
    exact e2
theorem web2 (hm : Γ "_law_mixed" = some W_mixed) {d : Nat} {U : Store} {ρ : Rho} {seed m cell : Int} {i : Nat} {names : List Tx} {es : List (Tx × Tx)} (h : WR ρ seed m names U.length) (hn : 0 < names.length) (hi : i < 1000) (hz : es.length + 2 < SZ)
    (h6 : ρ[6]? = some (some (.int i))) (h7 : ρ[7]? = some (some (.int cell))) :
    ∃ ρ' es', execs (run Γ (d + 1)) W_web_2 ρ (U ++ [.lst (edD es)]) = some (.nx ρ' (U ++ [.lst (edD es')])) ∧ Grows names es es' 2 ∧ WR ρ' seed m names U.length := by
  have q := emodp (m / 5000) (n := 2) (by decide)
  have hs : small (1 + m / 5000 % 2) = true := by unfold small; simp; omega
  have d5 : divOk 5000 = true := by decide +kernel
  obtain ⟨ρ', es', e, g, w⟩ := web1s hm (d := d) (U := U) (cell := cell) (i := i) hn hi (List.range (1 + m / 5000 % 2).toNat) ρ es (fun j hj => by have := List.mem_range.mp hj; omega) h (by simp; omega) h6 h7
  refine ⟨ρ', es', ?_, ?_, w⟩
  · rw [W_web_2, execs, exec]
    simp only [evIt, ev, h.h3, bnd_ok, binop, addOp, d5, if_true, show (0 : Int) < 2 by decide, hs, bndS_ok, forGo_fix, rangeL_eq, e, thn_nx, execs]
  · obtain ⟨xs, e1, l1, q1⟩ := g
    exact ⟨xs, e1, by simp at l1; omega, q1⟩
theorem web2s (hm : Γ "_law_mixed" = some W_mixed) {d : Nat} {U : Store} {seed m : Int} {names : List Tx} (hn : 0 < names.length) : ∀ (cs : List Int) (i : Nat) (ρ : Rho) (es : List (Tx × Tx)), WR ρ seed m names U.length → i + cs.length < 1000 → es.length + 2 * cs.length + 2 < SZ →
    ∃ ρ' es', forL (turnF (.tup [6, 7]) (execs (run Γ (d + 1)) W_web_2)) (enumD i (cs.map .int)) ρ (U ++ [.lst (edD es)]) = some (.nx ρ' (U ++ [.lst (edD es')])) ∧ Grows names es es' (2 * cs.length) ∧ WR ρ' seed m names U.length
  | [], i, ρ, es, h, _, _ => ⟨ρ, es, rfl, Grows.refl 0, h⟩
  | c :: r, i, ρ, es, h, hi, hz => by
    simp only [List.length_cons] at hi hz
    obtain ⟨ρ', es', e, q, w⟩ := web2 hm (d := d) (U := U) (ρ := (ρ.set 6 (some (.int i))).set 7 (some (.int c))) (cell := c) (i := i) (es := es) ((h.set (by omega)).set (by omega)) hn (by omega) (by omega)
      (by rw [get_set_ne (by omega)]; exact get_set_eq (by rw [h.len]; omega)) (get_set_eq (by rw [List.length_set, h.len]; omega))
    obtain ⟨ρ2, es2, e2, q2, w2⟩ := web2s hm hn r (i + 1) ρ' es' w (by omega) (by have := q.len; omega)
    refine ⟨ρ2, es2, ?_, by rw [List.length_cons, show 2 * (r.length + 1) = 2 + 2 * r.length by omega]; exact q.trans q2, w2⟩
    rw [List.map_cons, enumD, forL]
    show turnEnd (execs (run Γ (d + 1)) W_web_2 ((ρ.set 6 (some (.int i))).set 7 (some (.int c))) _) _ = _
    rw [e, turnEnd_nx]
    exact e2
/-! ### starts -/
structure WS (ρ : Rho) (seed m : Int) (names : List Tx) (r q : Nat) : Prop extends WR ρ seed m names r where
  h12 : ρ[12]? = some (some (.ref q))
theorem web3 (hm : Γ "_law_mixed" = some W_mixed) {d : Nat} {V : Store} {ρ : Rho} {seed m : Int} {i r : Nat} {name : Tx} {names st : List Tx} (h : WS ρ seed m names r V.length) (hi : i < 1000) (hz : st.length < SZ)
    (h6 : ρ[6]? = some (some (.int i))) (h13 : ρ[13]? = some (some (.str name))) :
    ∃ st', execs (run Γ (d + 1)) W_web_3 ρ (V ++ [.lst (st.map .str)]) = some (.nx ρ (V ++ [.lst (st'.map .str)])) ∧ (st' = st ∨ st' = st ++ [name]) := by
  obtain ⟨n, n0, n1, en⟩ := w_mixed hm d (V ++ [.lst (st.map .str)]) seed (200 + (i : Int)) (by omega) (by omega)
  have hmm : frz true (V ++ [.lst (st.map .str)]) (run Γ (d + 1) "_law_mixed" [.int seed, .int (200 + (i : Int))] (V ++ [.lst (st.map .str)])) = some (.ok (.int n) (V ++ [.lst (st.map .str)])) := by rw [en, frz_int]
  have d81 : divOk 81 = true := by decide +kernel
  obtain ⟨v, v0, iv⟩ := ix4 (m / 81 % 4) (emodp _ (by decide)).1 (emodp _ (by decide)).2
  by_cases q : n % v = 0
  · refine ⟨st ++ [name], ?_, .inr rfl⟩
    have hl : (st.map D.str).length < SZ := by simpa using hz
    have hp : prim .append false [.ref V.length, .str name] (V ++ [.lst (st.map .str)]) = some (.ok .non (V ++ [.lst ((st ++ [name]).map .str)])) := by
      simp only [prim, get_end, hl, if_true, upd_end]
      simp
    simp only [W_web_3, exec, execs, evB, ev, evs, h.h2, h.h3, h6, h13, h.h12, bnd_ok, hmm, recvOk, asL, get_end, Option.isSome_some, if_true, binop, addOp, d81, show (0 : Int) < 4 by decide, v0, mkL, Bool.false_eq_true, if_false, iv, hp, bndS_ok, cmp_eq_int, tru_bl, q, decide_true, thn_nx]
  · refine ⟨st, ?_, .inl rfl⟩
    simp only [W_web_3, exec, execs, evB, ev, evs, h.h2, h.h3, h6, bnd_ok, hmm, if_true, binop, addOp, d81, show (0 : Int) < 4 by decide, v0, mkL, Bool.false_eq_true, if_false, iv, bndS_ok, cmp_eq_int, tru_bl, q, decide_false, thn_nx]
theorem web3s (hm : Γ "_law_mixed" = some W_mixed) {d : Nat} {V : Store} {seed m : Int} {r : Nat} {names : List Tx} : ∀ (ns : List Tx) (i : Nat) (ρ : Rho) (st : List Tx), WS ρ seed m names r V.length → i + ns.length < 1000 → st.length + ns.length < SZ →
    ∃ ρ' st', forL (turnF (.tup [6, 13]) (execs (run Γ (d + 1)) W_web_3)) (enumD i (ns.map .str)) ρ (V ++ [.lst (st.map .str)]) = some (.nx ρ' (V ++ [.lst ((st ++ st').map .str)])) ∧ st'.Sublist ns ∧ WS ρ' seed m names r V.length
  | [], i, ρ, st, h, _, _ => ⟨ρ, [], by simp [enumD, forL], List.Sublist.refl _, h⟩
  | x :: t, i, ρ, st, h, hi, hz => by
    simp only [List.length_cons] at hi hz
    have w : WS ((ρ.set 6 (some (.int i))).set 13 (some (.str x))) seed m names r V.length := ⟨((h.toWR.set (by omega)).set (by omega)), by rw [get_set_ne (by omega), get_set_ne (by omega)]; exact h.h12⟩
    obtain ⟨st', e, q⟩ := web3 hm (d := d) (V := V) (name := x) (i := i) (st := st) w (by omega) (by omega)
      (by rw [get_set_ne (by omega)]; exact get_set_eq (by rw [h.len]; omega)) (get_set_eq (by rw [List.length_set, h.len]; omega))
    have hl : st'.length + t.length < SZ := by
      rcases q with rfl | rfl
      · omega
      · simp; omega
    obtain ⟨ρ2, st2, e2, q2, w2⟩ := web3s hm t (i + 1) _ st' w (by omega) hl
    have un : forL (turnF (.tup [6, 13]) (execs (run Γ (d + 1)) W_web_3)) (enumD i ((x :: t).map .str)) ρ (V ++ [.lst (st.map .str)]) = some (.nx ρ2 (V ++ [.lst ((st' ++ st2).map .str)])) := by
      rw [List.map_cons, enumD, forL]
      show turnEnd (execs (run Γ (d + 1)) W_web_3 ((ρ.set 6 (some (.int i))).set 13 (some (.str x))) _) _ = _
      rw [e, turnEnd_nx]
      exact e2
    rcases q with rfl | rfl
    · exact ⟨ρ2, st2, un, q2.trans (List.sublist_cons_self _ _), w2⟩
    · exact ⟨ρ2, x :: st2, by rw [un]; simp, q2.cons_cons x, w2⟩
theorem rs_tup4 {V : Store} {n : Nat} {a b c d a' b' c' d' : D} (ha : rs V n a = some a') (hb : rs V n b = some b') (hc : rs V n c = some c') (hd : rs V n d = some d') : rs V n (.tup [a, b, c, d]) = some (.tup [a', b', c', d']) := by
  unfold rs at ha hb hc hd ⊢
  simp only [rsv, rsvL, ha, hb, hc, hd, Option.map_some]
/-- a good web -/
structure WebOk (most : Nat) (names : List Tx) (es : List (Tx × Tx)) (starts : List Tx) (goal : Tx) : Prop where
  nm : Names names
  two : 2 ≤ names.length
  most : names.length ≤ most
  few : es.length ≤ 126
  edge : ∀ e ∈ es, e.1 ∈ names ∧ e.2 ∈ names
  start : ∃ st, st.Sublist names ∧ (starts = st ∨ starts = st ++ st.take 1)
  goal : goal ∈ names
theorem w_web (hm : Γ "_law_mixed" = some W_mixed) (hf : Γ "_law_fold" = some W_fold) (hn : Γ "_law_names" = some W_names) (hw : Γ "_law_web" = some W_web) (d : Nat) (U : Store) (ns : List Int) (most : Nat) (h2 : 2 ≤ most) (h10 : most ≤ 10) :
    ∃ names es starts goal, WebOk most names es starts goal ∧ frz true U (run Γ (d + 3) "_law_web" [.lst (ns.map .int), .int most] U) = some (.ok (.tup [.lst (names.map .str), .lst (edD es), .lst (starts.map .str), .str goal]) U) := by
  obtain ⟨seed, s0, s1, eseed⟩ := w_fold hf (d + 1) U ns
  obtain ⟨m, m0, m1, em⟩ := w_mixed hm (d + 1) U seed 1 (by decide) (by decide)
  have qm := emodp m (n := (most : Int) - 1) (by omega)
  obtain ⟨names, ln, nm, en⟩ := w_names hm hn d U seed (2 + m % ((most : Int) - 1)) (by omega) (by omega)
  have hs : frz true U (run Γ (d + 2) "_law_fold" [.lst (ns.map .int)] U) = some (.ok (.int seed) U) := by rw [eseed, frz_int]
  have hmm : frz true U (run Γ (d + 2) "_law_mixed" [.int seed, .int 1] U) = some (.ok (.int m) U) := by rw [em, frz_int]
  have hnl : 0 < names.length := by omega
  have cutL : (cut (ns.map D.int) none (some 63)) = (ns.take 63).map D.int := by
    unfold cut sIx
    simp [List.map_take]
  have wr : WR [some (.lst (ns.map .int)), some (.int most), some (.int seed), some (.int m), some (.lst (names.map .str)), some (.ref U.length), none, none, none, none, none, none, none, none] seed m names U.length := ⟨rfl, rfl, rfl, rfl, rfl⟩
  have z1 : (1000 : Nat) < SZ := by decide
  have l63 : (ns.take 63).length ≤ 63 := by simp; omega
  obtain ⟨ρ1, es, e1, g1, w1⟩ := web2s hm (d := d + 1) (U := U) hnl (ns.take 63) 0 _ [] wr (by omega) (by simp only [List.length_nil]; omega)
  rw [show edD [] = [] from rfl] at e1
  obtain ⟨xs, ex, lx, qx⟩ := g1
  rw [List.nil_append] at ex
  subst ex
  have ws : WS (ρ1.set 12 (some (.ref (U ++ [MO.lst (edD es)]).length))) seed m names U.length (U ++ [MO.lst (edD es)]).length := ⟨w1.set (by omega), get_set_eq (by rw [w1.len]; omega)⟩
  obtain ⟨ρ2, st, e2, q2, w2⟩ := web3s hm (d := d + 1) (V := U ++ [.lst (edD es)]) names 0 _ [] ws (by omega) (by simp only [List.length_nil]; omega)
  rw [show ([] : List Tx).map D.str = [] from rfl, List.nil_append] at e2
  have lst : st.length ≤ names.length := q2.length_le
  have d324 : divOk 324 = true := by decide +kernel
  have d1296 : divOk 1296 = true := by decide +kernel
  have hl : (0 : Int) < (names.length : Int) := by omega
  -- the end, at any store and starts
  have fin2 : ∀ (ρ : Rho) (V : Store) (sts : List Tx) (q : Nat) (goal : Tx), WS ρ seed m names U.length q → V[U.length]? = some (.lst (edD es)) → V.take U.length = U → U.length ≤ q → V[q]? = some (.lst (sts.map .str)) → index1 (.lst (names.map .str)) (.int (m / 1296 % names.length)) V = some (.ok (.str goal) V) →
      frz true U (fin (execs (run Γ (d + 2)) (.cons (.ret (.tup (.cons (.var 4) (.cons (.var 5) (.cons (.var 12) (.cons (.idx (.var 4) (.bin .mod false (.bin .fdiv false (.var 3) (.cst (.int 1296))) (.prim .len false (.cons (.var 4) .nil)))) .nil)))))) .nil) ρ V)) = some (.ok (.tup [.lst (names.map .str), .lst (edD es), .lst (sts.map .str), .str goal]) U) := by
    intro ρ V sts q goal w hv1 hv2 hq hv3 hg
    have ln' : lenOf (.lst (names.map .str)) V = some (.ok (.int names.length) V) := by simp [lenOf, asQ, asL]
    have : execs (run Γ (d + 2)) (.cons (.ret (.tup (.cons (.var 4) (.cons (.var 5) (.cons (.var 12) (.cons (.idx (.var 4) (.bin .mod false (.bin .fdiv false (.var 3) (.cst (.int 1296))) (.prim .len false (.cons (.var 4) .nil)))) .nil)))))) .nil) ρ V = some (.rt (.tup [.lst (names.map .str), .ref U.length, .ref q, .str goal]) V) := by
      simp only [execs, exec, ev, evs, w.h4, w.h5, w.h12, w.h3, bnd_ok, recvOk, if_true, prim, ln', binop, d1296, hl, hg, bndS_ok, thn_rt]
    rw [this, fin_rt]
    unfold frz
    simp only [if_true, hv2]
    rw [rs_tup4 (rs_closed (by simp only [closed]; exact closed_strs _)) (rs_ref (Nat.le_refl _) hv1 (closed_edD _)) (rs_ref hq hv3 (closed_strs _)) (rs_closed rfl)]
  obtain ⟨goal, hgl, _⟩ := idx_lst (xs := names) (i := m / 1296 % names.length) (U := U) (emodp _ hl).1 (emodp _ hl).2
  have hg : ∃ goal ∈ names, ∀ V, index1 (.lst (names.map .str)) (.int (m / 1296 % names.length)) V = some (.ok (.str goal) V) := by
    obtain ⟨h, e⟩ := atI_lt (xs := names.map D.str) (i := m / 1296 % names.length) (emodp _ hl).1 (by simpa using (emodp (m / 1296) hl).2)
    have h' : (m / 1296 % names.length).toNat < names.length := by simpa using h
    exact ⟨names[(m / 1296 % names.length).toNat], List.getElem_mem h', fun V => by simp [index1, asQ, asL, e]⟩
  obtain ⟨goal, hgl, hg⟩ := hg
  have hm1 : (0 : Int) < (most : Int) - 1 := by omega
  have start : run Γ (d + 3) "_law_web" [.lst (ns.map .int), .int most] U = fin (execs (run Γ (d + 2)) (.cons (.ifS (.cmp .eq (.bin .mod false (.bin .fdiv false (.var 3) (.cst (.int 324))) (.cst (.int 4))) (.cst (.int 0)))
 (.cons (.asg (.var 12) (.bin .add true (.var 12) (.slc false (.var 12) (.cst .non) (.cst (.int 1)))))
 .nil)
 .nil)
 (.cons (.ret (.tup (.cons (.var 4) (.cons (.var 5) (.cons (.var 12) (.cons (.idx (.var 4) (.bin .mod false (.bin .fdiv false (.var 3) (.cst (.int 1296))) (.prim .len false (.cons (.var 4) .nil)))) .nil))))))
 .nil)) ρ2 ((U ++ [.lst (edD es)]) ++ [.lst (st.map .str)])) := by
    rw [run_at hw rfl]
    have b0 : (bnd? (.non : D)).isSome = true := rfl
    have lv : (U ++ [MO.lst (edD es)]).length = U.length + 1 := by simp
    simp only [W_web, startR, List.map_cons, List.map_nil, List.replicate, List.cons_append, List.nil_append, Nat.reduceSub]
    simp only [execs, exec, ev, evs, evIt, asgT, List.getElem?_cons_zero, List.getElem?_cons_succ, List.set_cons_zero, List.set_cons_succ, bnd_ok, hs, bndS_ok, thn_nx, hmm, binop, addOp, hm1, if_true, en, mkL, b0, slice1, bnd?, sliceB, asL, cutL, Bool.false_eq_true, if_false, srcL, forGo_enum, e1]
    simp only [Option.isSome_some, if_true, bnd_ok, bndS_ok, forGo_enum, e1, thn_nx, ws.h4, e2]
  rw [start]
  have hvV : ∀ J, (((U ++ [MO.lst (edD es)]) ++ [MO.lst (st.map .str)]) ++ J)[U.length]? = some (.lst (edD es)) := fun J => by simp
  have htk : ∀ J, (((U ++ [MO.lst (edD es)]) ++ [MO.lst (st.map .str)]) ++ J).take U.length = U := fun J => by simp
  have hv0 := hvV []
  have ht0 := htk []
  rw [List.append_nil] at hv0 ht0
  have wok : ∀ starts, (starts = st ∨ starts = st ++ st.take 1) → WebOk most names es starts goal := fun starts hq => ⟨nm, by omega, by omega, by omega, qx, ⟨st, q2, hq⟩, hgl⟩
  by_cases q : m / 324 % 4 = 0
  · refine ⟨names, es, st ++ st.take 1, goal, wok _ (.inr rfl), ?_⟩
    have hcut : cut (st.map D.str) none (some 1) = (st.take 1).map D.str := by
      unfold cut sIx
      simp [List.map_take]
    have hz : (st.map D.str).length + ((st.take 1).map D.str).length ≤ SZ := by
      simp only [List.length_map, List.length_take]
      omega
    have hV : ((U ++ [MO.lst (edD es)]) ++ [MO.lst (st.map .str)])[(U ++ [MO.lst (edD es)]).length]? = some (.lst (st.map .str)) := get_end
    have ei : exec (run Γ (d + 2)) (.ifS (.cmp .eq (.bin .mod false (.bin .fdiv false (.var 3) (.cst (.int 324))) (.cst (.int 4))) (.cst (.int 0))) (.cons (.asg (.var 12) (.bin .add true (.var 12) (.slc false (.var 12) (.cst .non) (.cst (.int 1))))) .nil) .nil) ρ2 ((U ++ [MO.lst (edD es)]) ++ [MO.lst (st.map .str)]) =
        some (.nx (ρ2.set 12 (some (.ref ((U ++ [MO.lst (edD es)]) ++ [MO.lst (st.map .str)]).length))) (((U ++ [MO.lst (edD es)]) ++ [MO.lst (st.map .str)]) ++ [.lst ((st ++ st.take 1).map .str)])) := by
      simp only [exec, execs, evB, ev, evs, w2.h3, w2.h12, bnd_ok, binop, addOp, d324, if_true, show (0 : Int) < 4 by decide, bndS_ok, cmp_eq_int, tru_bl, q, decide_true, bnd?, Option.isSome_some, slice1, sliceB, asL, hV, hcut, mkL, Bool.false_eq_true, if_false, hz, asgT, thn_nx, List.map_append]
    rw [execs, ei, thn_nx]
    exact fin2 _ _ _ _ goal ⟨w2.toWR.set (by omega), get_set_eq (by rw [w2.len]; omega)⟩ (hvV _) (htk _) (by simp) get_end (hg _)
  · refine ⟨names, es, st, goal, wok _ (.inl rfl), ?_⟩
    have ei : exec (run Γ (d + 2)) (.ifS (.cmp .eq (.bin .mod false (.bin .fdiv false (.var 3) (.cst (.int 324))) (.cst (.int 4))) (.cst (.int 0))) (.cons (.asg (.var 12) (.bin .add true (.var 12) (.slc false (.var 12) (.cst .non) (.cst (.int 1))))) .nil) .nil) ρ2 ((U ++ [MO.lst (edD es)]) ++ [MO.lst (st.map .str)]) = some (.nx ρ2 ((U ++ [MO.lst (edD es)]) ++ [MO.lst (st.map .str)])) := by
      simp only [exec, execs, evB, ev, evs, w2.h3, bnd_ok, binop, d324, if_true, show (0 : Int) < 4 by decide, bndS_ok, cmp_eq_int, tru_bl, q, decide_false, Bool.false_eq_true, if_false]
    rw [execs, ei, thn_nx]
    exact fin2 _ _ _ _ goal w2 hv0 ht0 (by simp) get_end (hg _)
end
end VI

/-! Fl: chains that share nobody, by flows of ones: plain theory. -/
namespace VI
inductive Kn where
  | src | inn (x : Tx) | out (x : Tx)
  deriving DecidableEq, Repr
def isIn : Kn → Bool
  | .inn _ => true
  | _ => false
/-- the arcs of a web -/
structure IsNet (E : Kn → Kn → Prop) (es : List (Tx × Tx)) (starts : List Tx) (goal : Tx) : Prop where
  ss : ∀ t, E .src t ↔ ∃ s, t = .inn s ∧ s ∈ starts ∧ s ≠ goal
  io : ∀ x t, E (.inn x) t → t = .out x ∧ x ≠ goal
  oi : ∀ x t, E (.out x) t ↔ ∃ y, t = .inn y ∧ (x, y) ∈ es ∧ x ≠ goal ∧ x ≠ y
  ex : ∀ h x, E h (.inn x) → x ≠ goal → E (.inn x) (.out x)
structure Flow (E F : Kn → Kn → Prop) (goal : Tx) : Prop where
  sub : ∀ u v, F u v → E u v
  inU : ∀ k h h', k ≠ .inn goal → F h k → F h' k → h = h'
  outU : ∀ k t t', k ≠ .src → F k t → F k t' → t = t'
  cons : ∀ k, k ≠ .src → k ≠ .inn goal → ((∃ h, F h k) ↔ ∃ t, F k t)
def Res (E F : Kn → Kn → Prop) (h t : Kn) : Prop := (E h t ∧ (¬ F h t ∨ isIn h = false)) ∨ F t h
section
variable {E F : Kn → Kn → Prop} {es : List (Tx × Tx)} {starts : List Tx} {goal : Tx}
theorem IsNet.no_src (N : IsNet E es starts goal) (h : Kn) : ¬ E h .src := by
  intro e
  cases h with
  | src => obtain ⟨s, q, _⟩ := (N.ss _).mp e; cases q
  | inn x => have := (N.io x _ e).1; cases this
  | out x => obtain ⟨y, q, _⟩ := (N.oi x _).mp e; cases q
theorem IsNet.to_out (N : IsNet E es starts goal) {h : Kn} {x : Tx} (e : E h (.out x)) : h = .inn x := by
  cases h with
  | src => obtain ⟨s, q, _⟩ := (N.ss _).mp e; cases q
  | inn y => have := (N.io y _ e).1; cases this; rfl
  | out y => obtain ⟨z, q, _⟩ := (N.oi y _).mp e; cases q
theorem IsNet.goal_no (N : IsNet E es starts goal) (t : Kn) : ¬ E (.inn goal) t := fun e => (N.io goal t e).2 rfl
theorem IsNet.anti (N : IsNet E es starts goal) {u v : Kn} (h : E u v) (h' : E v u) : False := by
  cases u with
  | src => exact N.no_src _ h'
  | inn x =>
    obtain ⟨rfl, _⟩ := N.io x v h
    obtain ⟨y, q, _, _, ne⟩ := (N.oi x _).mp h'
    cases q
    exact ne rfl
  | out x =>
    obtain ⟨y, rfl, _, _, ne⟩ := (N.oi x v).mp h
    have := (N.io y _ h').1
    cases this
    exact ne rfl
/-! ### a way back from the goal to the source -/
structure Way (E F : Kn → Kn → Prop) (goal : Tx) (P : List Kn) : Prop where
  head : P[0]? = some (.inn goal)
  last : ∀ i, P[i]? = some .src ↔ i + 1 = P.length
  nd : P.Nodup
  st : ∀ i h t, P[i]? = some t → P[i + 1]? = some h → Res E F h t
/-- a step of it -/
def St (P : List Kn) (h t : Kn) : Prop := ∃ i, P[i]? = some t ∧ P[i + 1]? = some h
theorem nd_get {P : List Kn} (nd : P.Nodup) {i j : Nat} {x : Kn} (h : P[i]? = some x) (h' : P[j]? = some x) : i = j := by
  obtain ⟨hi, e⟩ := List.getElem?_eq_some_iff.mp h
  obtain ⟨hj, e'⟩ := List.getElem?_eq_some_iff.mp h'
  exact (List.getElem_inj nd).mp (e.trans e'.symm)
theorem St.from {P : List Kn} (nd : P.Nodup) {k b b' : Kn} (h : St P k b) (h' : St P k b') : b = b' := by
  obtain ⟨i, h1, h2⟩ := h
  obtain ⟨j, g1, g2⟩ := h'
  have := nd_get nd h2 g2
  have : i = j := by omega
  subst this
  rw [h1] at g1
  exact Option.some.inj g1
theorem St.to {P : List Kn} (nd : P.Nodup) {k a a' : Kn} (h : St P a k) (h' : St P a' k) : a = a' := by
  obtain ⟨i, h1, h2⟩ := h
  obtain ⟨j, g1, g2⟩ := h'
  have := nd_get nd h1 g1
  subst this
  rw [h2] at g2
  exact Option.some.inj g2
theorem St.ne {P : List Kn} (nd : P.Nodup) {a k b : Kn} (h : St P a k) (h' : St P k b) : a ≠ b := by
  obtain ⟨i, h1, h2⟩ := h
  obtain ⟨j, g1, g2⟩ := h'
  have := nd_get nd h1 g2
  intro e
  subst e
  have := nd_get nd h2 g1
  omega
/-- each step goes on by what isn't used, or back by what is -/
theorem Way.strict {P : List Kn} (N : IsNet E es starts goal) (f : Flow E F goal) (w : Way E F goal P) {h t : Kn} (s : St P h t) : F t h ∨ (E h t ∧ ¬ F h t) := by
  obtain ⟨i, h1, h2⟩ := s
  rcases w.st i h t h1 h2 with ⟨he, hu⟩ | hb
  · by_cases hf : F h t
    · refine (?_ : False).elim
      have hin : isIn h = false := hu.resolve_left fun q => q hf
      cases t with
      | src => exact N.no_src _ he
      | out x =>
        have := N.to_out he
        subst this
        cases hin
      | inn y =>
        by_cases hy : y = goal
        · subst hy
          cases h with
          | src => obtain ⟨s, q, _, ne⟩ := (N.ss _).mp he; cases q; exact ne rfl
          | inn x => cases hin
          | out x =>
            have hi : i = 0 := nd_get w.nd h1 w.head
            subst hi
            -- the step into out x
            have hl : 1 + 1 ≠ P.length := fun q => by
              have := (w.last 1).mpr q
              rw [h2] at this
              cases this
            have hlt : 1 < P.length := (List.getElem?_eq_some_iff.mp h2).1
            obtain ⟨a, ha⟩ : ∃ a, P[2]? = some a := ⟨P[2]'(by omega), List.getElem?_eq_getElem (by omega)⟩
            rcases w.st 1 a (.out x) h2 ha with ⟨e2, u2⟩ | b2
            · have := N.to_out e2
              subst this
              obtain ⟨g, hg⟩ := (f.cons (.out x) (by simp) (by simp)).mpr ⟨_, hf⟩
              have := N.to_out (f.sub _ _ hg)
              subst this
              rcases u2 with u2 | u2
              · exact u2 hg
              · cases u2
            · have := f.outU _ _ _ (by simp) hf b2
              subst this
              have := nd_get w.nd ha h1
              omega
        · have hi : i ≠ 0 := fun q => by
            subst q
            rw [w.head] at h1
            cases h1
            exact hy rfl
          obtain ⟨b, hb⟩ : ∃ b, P[i - 1]? = some b := by
            have := (List.getElem?_eq_some_iff.mp h1).1
            exact ⟨P[i - 1]'(by omega), List.getElem?_eq_getElem (by omega)⟩
          have e1 : i - 1 + 1 = i := by omega
          rcases w.st (i - 1) (.inn y) b hb (by rw [e1]; exact h1) with ⟨e2, u2⟩ | b2
          · obtain ⟨rfl, _⟩ := N.io y _ e2
            obtain ⟨g, hg⟩ := (f.cons (.inn y) (by simp) (by simpa using hy)).mp ⟨_, hf⟩
            obtain ⟨rfl, _⟩ := N.io y _ (f.sub _ _ hg)
            rcases u2 with u2 | u2
            · exact u2 hg
            · cases u2
          · have := f.inU (.inn y) _ _ (by simpa using hy) hf b2
            subst this
            have := nd_get w.nd hb h2
            omega
    · exact .inr ⟨he, hf⟩
  · exact .inl hb
/-- one chain more -/
def Aug (F : Kn → Kn → Prop) (P : List Kn) (u v : Kn) : Prop := (F u v ∧ ¬ St P v u) ∨ (St P u v ∧ ¬ F v u)
theorem Flow.aug {P : List Kn} (N : IsNet E es starts goal) (f : Flow E F goal) (w : Way E F goal P) : Flow E (Aug F P) goal := by
  have str : ∀ {h t : Kn}, St P h t → F t h ∨ (E h t ∧ ¬ F h t) := fun s => w.strict N f s
  have sub : ∀ u v, Aug F P u v → E u v := fun u v a => by
    rcases a with ⟨h, _⟩ | ⟨s, n⟩
    · exact f.sub _ _ h
    · exact ((str s).resolve_left n).1
  -- at a knot within the way
  have mid : ∀ k, k ≠ .src → k ≠ .inn goal → (∀ u, ¬ St P u k) ∧ (∀ v, ¬ St P k v) ∨ ∃ a b, St P a k ∧ St P k b := fun k k1 k2 => by
    by_cases hk : k ∈ P
    · obtain ⟨i, hi, e⟩ := List.mem_iff_getElem.mp hk
      have hg : P[i]? = some k := by rw [List.getElem?_eq_getElem hi, e]
      have h0 : i ≠ 0 := fun q => by
        subst q
        rw [w.head] at hg
        cases hg
        exact k2 rfl
      have hl : i + 1 ≠ P.length := fun q => by
        have := (w.last i).mpr q
        rw [hg] at this
        cases this
        exact k1 rfl
      exact .inr ⟨P[i + 1]'(by omega), P[i - 1]'(by omega), ⟨i, hg, List.getElem?_eq_getElem (by omega)⟩, ⟨i - 1, List.getElem?_eq_getElem (by omega), by rw [show i - 1 + 1 = i by omega]; exact hg⟩⟩
    · exact .inl ⟨fun u ⟨i, h1, h2⟩ => hk (List.mem_of_getElem? h1), fun v ⟨i, h1, h2⟩ => hk (List.mem_of_getElem? h2)⟩
  -- the arcs in and out of a knot
  have key : ∀ k, k ≠ .src → k ≠ .inn goal → (∀ h h', Aug F P h k → Aug F P h' k → h = h') ∧ (∀ t t', Aug F P k t → Aug F P k t' → t = t') ∧ ((∃ h, Aug F P h k) ↔ ∃ t, Aug F P k t) := fun k k1 k2 => by
    rcases mid k k1 k2 with ⟨m1, m2⟩ | ⟨a, b, sa, sb⟩
    · have ei : ∀ u, Aug F P u k ↔ F u k := fun u => ⟨fun q => by
        rcases q with ⟨h, _⟩ | ⟨s, _⟩
        · exact h
        · exact (m1 u s).elim, fun q => .inl ⟨q, m2 u⟩⟩
      have eo : ∀ v, Aug F P k v ↔ F k v := fun v => ⟨fun q => by
        rcases q with ⟨h, _⟩ | ⟨s, _⟩
        · exact h
        · exact (m2 v s).elim, fun q => .inl ⟨q, m1 v⟩⟩
      refine ⟨fun h h' q q' => f.inU k h h' k2 ((ei h).mp q) ((ei h').mp q'), fun t t' q q' => f.outU k t t' k1 ((eo t).mp q) ((eo t').mp q'), ?_⟩
      simp only [ei, eo]
      exact f.cons k k1 k2
    · have ei : ∀ u, Aug F P u k ↔ (F u k ∧ u ≠ b) ∨ (u = a ∧ ¬ F k a) := fun u => ⟨fun q => by
        rcases q with ⟨h, n⟩ | ⟨s, n⟩
        · exact .inl ⟨h, fun e => n (e ▸ sb)⟩
        · have := St.to w.nd s sa
          subst this
          exact .inr ⟨rfl, n⟩, fun q => by
        rcases q with ⟨h, n⟩ | ⟨rfl, n⟩
        · exact .inl ⟨h, fun s => n (St.from w.nd s sb)⟩
        · exact .inr ⟨sa, n⟩⟩
      have eo : ∀ v, Aug F P k v ↔ (F k v ∧ v ≠ a) ∨ (v = b ∧ ¬ F b k) := fun v => ⟨fun q => by
        rcases q with ⟨h, n⟩ | ⟨s, n⟩
        · exact .inl ⟨h, fun e => n (e ▸ sa)⟩
        · have := St.from w.nd s sb
          subst this
          exact .inr ⟨rfl, n⟩, fun q => by
        rcases q with ⟨h, n⟩ | ⟨rfl, n⟩
        · exact .inl ⟨h, fun s => n (St.to w.nd s sa)⟩
        · exact .inr ⟨sb, n⟩⟩
      simp only [ei, eo]
      by_cases ca : F k a <;> by_cases cb : F b k
      · -- both back
        have e1 : ∀ u, ¬ ((F u k ∧ u ≠ b) ∨ (u = a ∧ ¬ F k a)) := fun u q => by
          rcases q with ⟨h, n⟩ | ⟨_, n⟩
          · exact n (f.inU k _ _ k2 h cb)
          · exact n ca
        have e2 : ∀ v, ¬ ((F k v ∧ v ≠ a) ∨ (v = b ∧ ¬ F b k)) := fun v q => by
          rcases q with ⟨h, n⟩ | ⟨_, n⟩
          · exact n (f.outU k _ _ k1 h ca)
          · exact n cb
        exact ⟨fun h h' q => (e1 h q).elim, fun t t' q => (e2 t q).elim, ⟨fun ⟨h, q⟩ => (e1 h q).elim, fun ⟨t, q⟩ => (e2 t q).elim⟩⟩
      · -- back in, on out
        have e1 : ∀ u, ((F u k ∧ u ≠ b) ∨ (u = a ∧ ¬ F k a)) ↔ F u k := fun u => ⟨fun q => by
          rcases q with ⟨h, _⟩ | ⟨_, n⟩
          · exact h
          · exact (n ca).elim, fun q => .inl ⟨q, fun e => cb (e ▸ q)⟩⟩
        have e2 : ∀ v, ((F k v ∧ v ≠ a) ∨ (v = b ∧ ¬ F b k)) ↔ v = b := fun v => ⟨fun q => by
          rcases q with ⟨h, n⟩ | ⟨h, _⟩
          · exact (n (f.outU k _ _ k1 h ca)).elim
          · exact h, fun q => .inr ⟨q, cb⟩⟩
        simp only [e1, e2]
        refine ⟨fun h h' q q' => f.inU k h h' k2 q q', fun t t' q q' => q.trans q'.symm, ⟨fun _ => ⟨b, rfl⟩, fun _ => (f.cons k k1 k2).mpr ⟨a, ca⟩⟩⟩
      · -- on in, back out
        have e1 : ∀ u, ((F u k ∧ u ≠ b) ∨ (u = a ∧ ¬ F k a)) ↔ u = a := fun u => ⟨fun q => by
          rcases q with ⟨h, n⟩ | ⟨h, _⟩
          · exact (n (f.inU k _ _ k2 h cb)).elim
          · exact h, fun q => .inr ⟨q, ca⟩⟩
        have e2 : ∀ v, ((F k v ∧ v ≠ a) ∨ (v = b ∧ ¬ F b k)) ↔ F k v := fun v => ⟨fun q => by
          rcases q with ⟨h, _⟩ | ⟨_, n⟩
          · exact h
          · exact (n cb).elim, fun q => .inl ⟨q, fun e => ca (e ▸ q)⟩⟩
        simp only [e1, e2]
        refine ⟨fun h h' q q' => q.trans q'.symm, fun t t' q q' => f.outU k t t' k1 q q', ⟨fun _ => (f.cons k k1 k2).mp ⟨b, cb⟩, fun _ => ⟨a, rfl⟩⟩⟩
      · -- on in, on out: nothing passed it before
        have ga := (str sa).resolve_left ca
        have gb := (str sb).resolve_left cb
        have none : (∀ u, ¬ F u k) ∧ ∀ v, ¬ F k v := by
          cases k with
          | src => exact (k1 rfl).elim
          | inn y =>
            have o : ∀ v, ¬ F (.inn y) v := fun v q => by
              obtain ⟨rfl, _⟩ := N.io y _ (f.sub _ _ q)
              obtain ⟨rfl, _⟩ := N.io y _ gb.1
              exact gb.2 q
            exact ⟨fun u q => by
              obtain ⟨v, hv⟩ := (f.cons _ k1 k2).mp ⟨u, q⟩
              exact o v hv, o⟩
          | out x =>
            have o : ∀ u, ¬ F u (.out x) := fun u q => by
              have h1 := N.to_out (f.sub _ _ q)
              have h2 := N.to_out ga.1
              subst h1
              subst h2
              exact ga.2 q
            exact ⟨o, fun v q => by
              obtain ⟨u, hu⟩ := (f.cons _ k1 k2).mpr ⟨v, q⟩
              exact o u hu⟩
        have e1 : ∀ u, ((F u k ∧ u ≠ b) ∨ (u = a ∧ ¬ F k a)) ↔ u = a := fun u => ⟨fun q => by
          rcases q with ⟨h, n⟩ | ⟨h, _⟩
          · exact (none.1 u h).elim
          · exact h, fun q => .inr ⟨q, ca⟩⟩
        have e2 : ∀ v, ((F k v ∧ v ≠ a) ∨ (v = b ∧ ¬ F b k)) ↔ v = b := fun v => ⟨fun q => by
          rcases q with ⟨h, n⟩ | ⟨h, _⟩
          · exact (none.2 v h).elim
          · exact h, fun q => .inr ⟨q, cb⟩⟩
        simp only [e1, e2]
        exact ⟨fun h h' q q' => q.trans q'.symm, fun t t' q q' => q.trans q'.symm, ⟨fun _ => ⟨b, rfl⟩, fun _ => ⟨a, rfl⟩⟩⟩
  refine ⟨sub, fun k h h' hk q q' => ?_, fun k t t' hk q q' => ?_, fun k k1 k2 => (key k k1 k2).2.2⟩
  · by_cases k1 : k = .src
    · subst k1
      exact (N.no_src _ (sub _ _ q)).elim
    · exact (key k k1 hk).1 h h' q q'
  · by_cases k2 : k = .inn goal
    · subst k2
      exact (N.goal_no _ (sub _ _ q)).elim
    · exact (key k hk k2).2.1 t t' q q'
/-- how many arcs leave the source: one more -/
theorem Way.first {P : List Kn} (N : IsNet E es starts goal) (f : Flow E F goal) (w : Way E F goal P) : ∃ p, E .src p ∧ ¬ F .src p ∧ ∀ t, Aug F P .src t ↔ F .src t ∨ t = p := by
  have hl : 0 < P.length := (List.getElem?_eq_some_iff.mp w.head).1
  have h1 : 1 < P.length := by
    by_cases h : 0 + 1 = P.length
    · have := (w.last 0).mpr h
      rw [w.head] at this
      cases this
    · omega
  have hs : P[P.length - 1]? = some .src := (w.last _).mpr (by omega)
  have hp : P[P.length - 2]? = some (P[P.length - 2]'(by omega)) := List.getElem?_eq_getElem (by omega)
  have s : St P .src (P[P.length - 2]'(by omega)) := ⟨P.length - 2, hp, by rw [show P.length - 2 + 1 = P.length - 1 by omega]; exact hs⟩
  generalize P[P.length - 2]'(by omega) = p at s
  have nb : ∀ v, ¬ F v .src := fun v q => N.no_src _ (f.sub _ _ q)
  obtain ⟨e, n⟩ := (w.strict N f s).resolve_left (nb p)
  refine ⟨p, e, n, fun t => ⟨fun q => ?_, fun q => ?_⟩⟩
  · rcases q with ⟨h, _⟩ | ⟨h, _⟩
    · exact .inl h
    · exact .inr (St.from w.nd h s)
  · rcases q with h | rfl
    · refine .inl ⟨h, fun ⟨i, g1, g2⟩ => ?_⟩
      have := (w.last i).mp g1
      have := (List.getElem?_eq_some_iff.mp g2).1
      omega
    · exact .inr ⟨s, nb _⟩
end
end VI

/-! Fl2: the chains of a flow, the cut: plain theory. -/
namespace VI
section
variable {E F : Kn → Kn → Prop} {es : List (Tx × Tx)} {starts : List Tx} {goal : Tx}
/-- names along a flow, from the source -/
structure Lk (F : Kn → Kn → Prop) (goal : Tx) (l : List Tx) : Prop where
  ne : l ≠ []
  hd : ∀ x, l[0]? = some x → F .src (.inn x)
  st : ∀ (i : Nat) a b, l[i]? = some a → l[i + 1]? = some b → F (.out a) (.inn b)
  ng : ∀ x ∈ l, x ≠ goal
/-- .. to the goal -/
structure Full (F : Kn → Kn → Prop) (goal : Tx) (l : List Tx) : Prop extends Lk F goal l where
  last : ∀ i z, i + 1 = l.length → l[i]? = some z → F (.out z) (.inn goal)
theorem inn_ne {x goal : Tx} (h : x ≠ goal) : Kn.inn x ≠ .inn goal := fun e => h (by cases e; rfl)
theorem Lk.meet (f : Flow E F goal) {l m : List Tx} (hl : Lk F goal l) (hm : Lk F goal m) : ∀ (i j : Nat) x, l[i]? = some x → m[j]? = some x → i = j ∧ l[0]? = m[0]?
  | 0, 0, x, h, h' => ⟨rfl, h.trans h'.symm⟩
  | 0, j + 1, x, h, h' => by
    have hj : j < m.length := by have := (List.getElem?_eq_some_iff.mp h').1; omega
    have := f.inU (.inn x) _ _ (inn_ne (hl.ng x (List.mem_of_getElem? h))) (hl.hd x h) (hm.st j _ x (List.getElem?_eq_getElem hj) h')
    cases this
  | i + 1, 0, x, h, h' => by
    have hj : i < l.length := by have := (List.getElem?_eq_some_iff.mp h).1; omega
    have := f.inU (.inn x) _ _ (inn_ne (hl.ng x (List.mem_of_getElem? h))) (hm.hd x h') (hl.st i _ x (List.getElem?_eq_getElem hj) h)
    cases this
  | i + 1, j + 1, x, h, h' => by
    have hi : i < l.length := by have := (List.getElem?_eq_some_iff.mp h).1; omega
    have hj : j < m.length := by have := (List.getElem?_eq_some_iff.mp h').1; omega
    have := f.inU (.inn x) _ _ (inn_ne (hl.ng x (List.mem_of_getElem? h))) (hl.st i _ x (List.getElem?_eq_getElem hi) h) (hm.st j _ x (List.getElem?_eq_getElem hj) h')
    injection this with this
    obtain ⟨e1, e2⟩ := Lk.meet f hl hm i j l[i] (List.getElem?_eq_getElem hi) (by rw [List.getElem?_eq_getElem hj, this])
    exact ⟨by omega, e2⟩
theorem Lk.nodup (f : Flow E F goal) {l : List Tx} (hl : Lk F goal l) : l.Nodup := by
  rw [List.Nodup, List.pairwise_iff_getElem]
  intro i j hi hj hij e
  have := (Lk.meet f hl hl i j l[i] (List.getElem?_eq_getElem hi) (by rw [List.getElem?_eq_getElem hj, e])).1
  omega
/-- who is come to goes on -/
theorem Flow.next (N : IsNet E es starts goal) (f : Flow E F goal) {x : Tx} {h : Kn} (hx : x ≠ goal) (hf : F h (.inn x)) : F (.inn x) (.out x) ∧ ∃ y, F (.out x) (.inn y) := by
  obtain ⟨t, ht⟩ := (f.cons (.inn x) (by simp) (inn_ne hx)).mp ⟨h, hf⟩
  obtain ⟨rfl, _⟩ := N.io x _ (f.sub _ _ ht)
  obtain ⟨t, ht2⟩ := (f.cons (.out x) (by simp) (by simp)).mp ⟨_, ht⟩
  obtain ⟨y, rfl, _⟩ := (N.oi x _).mp (f.sub _ _ ht2)
  exact ⟨ht, y, ht2⟩
theorem Lk.into {l : List Tx} (hl : Lk F goal l) {x : Tx} (hx : x ∈ l) : ∃ h, F h (.inn x) := by
  obtain ⟨i, hi, rfl⟩ := List.mem_iff_getElem.mp hx
  cases i with
  | zero => exact ⟨_, hl.hd _ (List.getElem?_eq_getElem hi)⟩
  | succ i => exact ⟨_, hl.st i _ _ (List.getElem?_eq_getElem (by omega)) (List.getElem?_eq_getElem hi)⟩
theorem Lk.more {l : List Tx} {y z : Tx} {i : Nat} (hl : Lk F goal l) (hi : i + 1 = l.length) (hy : l[i]? = some y) (h : F (.out y) (.inn z)) (hz : z ≠ goal) : Lk F goal (l ++ [z]) := by
  refine ⟨by simp, fun x hx => hl.hd x ?_, fun j a b ha hb => ?_, fun x hx => ?_⟩
  · rw [List.getElem?_append_left (by omega)] at hx
    exact hx
  · by_cases hj : j + 1 < l.length
    · rw [List.getElem?_append_left (by omega)] at ha hb
      exact hl.st j a b ha hb
    · have h1 : j + 1 < (l ++ [z]).length := (List.getElem?_eq_some_iff.mp hb).1
      simp at h1
      have hj : j = i := by omega
      subst hj
      rw [List.getElem?_append_left (by omega), hy] at ha
      cases ha
      rw [List.getElem?_append_right (by omega), show j + 1 - l.length = 0 by omega] at hb
      cases hb
      exact h
  · rcases List.mem_append.mp hx with hx | hx
    · exact hl.ng x hx
    · simp only [List.mem_singleton] at hx
      subst hx
      exact hz
/-! ### counting -/
def Apart (cs : List (List Tx)) : Prop := cs.Pairwise fun c d => ∀ x ∈ c, x ∉ d
theorem apart_le : ∀ {cs : List (List Tx)} {cut : List Tx}, Apart cs → (∀ c ∈ cs, ∃ x ∈ c, x ∈ cut) → cs.length ≤ cut.length
  | [], cut, _, _ => Nat.zero_le _
  | c :: r, cut, ap, h => by
    obtain ⟨x, hx, hc⟩ := h c (by simp)
    unfold Apart at ap
    rw [List.pairwise_cons] at ap
    have ih := apart_le (cs := r) (cut := cut.erase x) ap.2 fun d hd => by
      obtain ⟨y, hy, hcut⟩ := h d (by simp [hd])
      have ne : y ≠ x := fun e => ap.1 d hd x hx (e ▸ hy)
      exact ⟨y, hy, (List.mem_erase_of_ne ne).mpr hcut⟩
    have := List.length_erase_of_mem hc
    have : 0 < cut.length := List.length_pos_of_mem hc
    simp only [List.length_cons]
    omega
theorem cover_le : ∀ {cs : List (List Tx)} {cut : List Tx}, cut.Nodup → (∀ x ∈ cut, ∃ c ∈ cs, x ∈ c) → (∀ c ∈ cs, ∀ x ∈ c, ∀ y ∈ c, x ∈ cut → y ∈ cut → x = y) → cut.length ≤ cs.length
  | [], cut, nd, h, _ => by
    cases cut with
    | nil => simp
    | cons x r =>
      obtain ⟨c, hc, _⟩ := h x (by simp)
      cases hc
  | c :: r, cut, nd, h, u => by
    by_cases hx : ∃ x ∈ c, x ∈ cut
    · obtain ⟨x, hx, hc⟩ := hx
      have ih := cover_le (cs := r) (cut := cut.erase x) (nd.erase x) (fun y hy => by
        have hy' := List.mem_of_mem_erase hy
        obtain ⟨d, hd, hyd⟩ := h y hy'
        rcases List.mem_cons.mp hd with rfl | hd
        · have := u d (by simp) x hx y hyd hc hy'
          subst this
          exact absurd hy (List.Nodup.not_mem_erase nd)
        · exact ⟨d, hd, hyd⟩) (fun d hd y hy z hz h1 h2 => u d (by simp [hd]) y hy z hz (List.mem_of_mem_erase h1) (List.mem_of_mem_erase h2))
      have := List.length_erase_of_mem hc
      have : 0 < cut.length := List.length_pos_of_mem hc
      simp only [List.length_cons]
      omega
    · have ih := cover_le (cs := r) (cut := cut) nd (fun y hy => by
        obtain ⟨d, hd, hyd⟩ := h y hy
        rcases List.mem_cons.mp hd with rfl | hd
        · exact (hx ⟨y, hyd, hy⟩).elim
        · exact ⟨d, hd, hyd⟩) (fun d hd => u d (by simp [hd]))
      simp only [List.length_cons]
      omega
/-! ### the cut -/
/-- what can be come to: not the goal -/
structure Seen (E F : Kn → Kn → Prop) (goal : Tx) (K : Kn → Prop) : Prop where
  src : K .src
  go : ∀ h t, K h → Res E F h t → K t
  no : ¬ K (.inn goal)
  ex : ∀ x, K (.inn x) → x ≠ goal → E (.inn x) (.out x)
variable {K : Kn → Prop} {cs : List (List Tx)} {cut names : List Tx}
theorem Seen.out_in (N : IsNet E es starts goal) (s : Seen E F goal K) {x : Tx} (h : K (.out x)) (hf : F (.inn x) (.out x)) : K (.inn x) := s.go _ _ h (.inr hf)
/-- each whole chain has one of the cut -/
theorem cut_has (N : IsNet E es starts goal) (f : Flow E F goal) (s : Seen E F goal K) (hc : ∀ x, x ∈ cut ↔ K (.inn x) ∧ ¬ K (.out x)) {l : List Tx} (hl : Full F goal l) : ∃ x ∈ l, x ∈ cut := by
  refine Classical.byContradiction fun no => ?_
  have no : ∀ x ∈ l, x ∉ cut := fun x h1 h2 => no ⟨x, h1, h2⟩
  have all : ∀ (i : Nat) x, l[i]? = some x → K (.out x) := by
    intro i
    induction i with
    | zero =>
      intro x hx
      have h1 : K (.inn x) := s.go _ _ s.src (.inl ⟨f.sub _ _ (hl.hd x hx), .inr rfl⟩)
      exact Classical.byContradiction fun h2 => no x (List.mem_of_getElem? hx) ((hc x).mpr ⟨h1, h2⟩)
    | succ i ih =>
      intro x hx
      have hi : i < l.length := by have := (List.getElem?_eq_some_iff.mp hx).1; omega
      have q := ih l[i] (List.getElem?_eq_getElem hi)
      have h1 : K (.inn x) := s.go _ _ q (.inl ⟨f.sub _ _ (hl.st i _ x (List.getElem?_eq_getElem hi) hx), .inr rfl⟩)
      exact Classical.byContradiction fun h2 => no x (List.mem_of_getElem? hx) ((hc x).mpr ⟨h1, h2⟩)
  have hp : 0 < l.length := List.length_pos_iff.mpr hl.ne
  have hz : l[l.length - 1]? = some (l[l.length - 1]'(by omega)) := List.getElem?_eq_getElem (by omega)
  have hF := hl.last (l.length - 1) _ (by omega) hz
  exact s.no (s.go _ _ (all _ _ hz) (.inl ⟨f.sub _ _ hF, .inr rfl⟩))
/-- .. and no two -/
theorem cut_one (N : IsNet E es starts goal) (f : Flow E F goal) (s : Seen E F goal K) (hc : ∀ x, x ∈ cut ↔ K (.inn x) ∧ ¬ K (.out x)) {l : List Tx} (hl : Lk F goal l) : ∀ x ∈ l, ∀ y ∈ l, x ∈ cut → y ∈ cut → x = y := by
  have aft : ∀ (d i : Nat) x y, l[i]? = some x → l[i + d + 1]? = some y → x ∈ cut → ¬ K (.inn y) ∧ ¬ K (.out y) := by
    intro d
    induction d with
    | zero =>
      intro i x y hx hy hxc
      have hF := hl.st i x y hx hy
      have h1 : ¬ K (.inn y) := fun k => ((hc x).mp hxc).2 (s.go _ _ k (.inr hF))
      exact ⟨h1, fun k => h1 (s.out_in N k (f.next N (hl.ng y (List.mem_of_getElem? hy)) hF).1)⟩
    | succ d ih =>
      intro i x y hx hy hxc
      have hi : i + d + 1 < l.length := by have := (List.getElem?_eq_some_iff.mp hy).1; omega
      have q := ih i x l[i + d + 1] hx (List.getElem?_eq_getElem hi) hxc
      have hF := hl.st (i + d + 1) _ y (List.getElem?_eq_getElem hi) (by rw [show i + d + 1 + 1 = i + (d + 1) + 1 by omega]; exact hy)
      have h1 : ¬ K (.inn y) := fun k => q.2 (s.go _ _ k (.inr hF))
      exact ⟨h1, fun k => h1 (s.out_in N k (f.next N (hl.ng y (List.mem_of_getElem? hy)) hF).1)⟩
  intro x hx y hy cx cy
  obtain ⟨i, hi, rfl⟩ := List.mem_iff_getElem.mp hx
  obtain ⟨j, hj, rfl⟩ := List.mem_iff_getElem.mp hy
  rcases Nat.lt_trichotomy i j with h | h | h
  · exact absurd ((hc _).mp cy).1 (aft (j - i - 1) i _ _ (List.getElem?_eq_getElem hi) (by rw [show i + (j - i - 1) + 1 = j by omega]; exact List.getElem?_eq_getElem hj) cx).1
  · subst h
    rfl
  · exact absurd ((hc _).mp cx).1 (aft (i - j - 1) j _ _ (List.getElem?_eq_getElem hj) (by rw [show j + (i - j - 1) + 1 = i by omega]; exact List.getElem?_eq_getElem hi) cy).1
/-- back from one of the cut to the source -/
structure Bk (F : Kn → Kn → Prop) (K : Kn → Prop) (goal x : Tx) (l : List Tx) : Prop where
  st : ∀ (i : Nat) a b, l[i]? = some a → l[i + 1]? = some b → F (.out a) (.inn b)
  last : ∀ i, i + 1 = l.length → l[i]? = some x
  ks : ∀ (i : Nat) a, l[i]? = some a → K (.inn a) ∧ (i + 1 ≠ l.length → K (.out a))
  ne : l ≠ []
  nd : l.Nodup
theorem cut_back (N : IsNet E es starts goal) (f : Flow E F goal) (s : Seen E F goal K) (hn : ∀ h y, E h (.inn y) → y ≠ goal → y ∈ names) {x : Tx} (hx : ¬ K (.out x)) (hxi : K (.inn x)) : ∀ (n : Nat) (l : List Tx), names.length < l.length + n → Bk F K goal x l → (∀ y ∈ l, y ∈ names) → ∃ m, Lk F goal m ∧ x ∈ m
  | 0, l, h, b, hm => by
    have := nodup_le b.nd hm
    omega
  | n + 1, l, h, b, hm => by
    obtain ⟨y, hy⟩ : ∃ y, l[0]? = some y := ⟨l[0]'(List.length_pos_iff.mpr b.ne), List.getElem?_eq_getElem _⟩
    obtain ⟨ky, ko⟩ := b.ks 0 y hy
    have hlen : 0 < l.length := List.length_pos_iff.mpr b.ne
    have yg : y ≠ goal := fun e => s.no (e ▸ ky)
    have hio : F (.inn y) (.out y) := by
      by_cases h1 : 0 + 1 = l.length
      · have := b.last 0 h1
        rw [hy] at this
        cases this
        refine Classical.byContradiction fun q => hx (s.go _ _ hxi (.inl ⟨s.ex _ hxi yg, .inl q⟩))
      · obtain ⟨z, hz⟩ : ∃ z, l[1]? = some z := ⟨l[1]'(by omega), List.getElem?_eq_getElem (by omega)⟩
        have hF := b.st 0 y z hy hz
        obtain ⟨u, hu⟩ := (f.cons (.out y) (by simp) (by simp)).mpr ⟨_, hF⟩
        have := N.to_out (f.sub _ _ hu)
        subst this
        exact hu
    obtain ⟨u, hu⟩ := (f.cons (.inn y) (by simp) (inn_ne yg)).mpr ⟨_, hio⟩
    have allng : ∀ z ∈ l, z ≠ goal := fun z hz e => by
      obtain ⟨i, hi, ez⟩ := List.mem_iff_getElem.mp hz
      exact s.no (e ▸ (b.ks i z (by rw [List.getElem?_eq_getElem hi, ez])).1)
    cases u with
    | src =>
      refine ⟨l, ⟨b.ne, fun z hz => ?_, b.st, allng⟩, List.mem_of_getElem? (b.last (l.length - 1) (by omega))⟩
      rw [hy] at hz
      cases hz
      exact hu
    | inn w =>
      have := (N.io w _ (f.sub _ _ hu)).1
      cases this
    | out w =>
      have kw : K (.out w) := s.go _ _ ky (.inr hu)
      obtain ⟨g, hg⟩ := (f.cons (.out w) (by simp) (by simp)).mpr ⟨_, hu⟩
      have := N.to_out (f.sub _ _ hg)
      subst this
      have kwi : K (.inn w) := s.out_in N kw hg
      have wg : w ≠ goal := fun e => s.no (e ▸ kwi)
      obtain ⟨g2, hg2⟩ := (f.cons (.inn w) (by simp) (inn_ne wg)).mpr ⟨_, hg⟩
      have wn : w ∉ l := fun hw => by
        obtain ⟨i, hi, ew⟩ := List.mem_iff_getElem.mp hw
        have hiw : l[i]? = some w := by rw [List.getElem?_eq_getElem hi, ew]
        by_cases hl : i + 1 = l.length
        · have := b.last i hl
          rw [hiw] at this
          cases this
          exact hx kw
        · obtain ⟨z, hz⟩ : ∃ z, l[i + 1]? = some z := ⟨l[i + 1]'(by omega), List.getElem?_eq_getElem (by omega)⟩
          have := f.outU (.out w) _ _ (by simp) (b.st i w z hiw hz) hu
          injection this with this
          subst this
          obtain ⟨h1, e1⟩ := List.getElem?_eq_some_iff.mp hz
          obtain ⟨h2, e2⟩ := List.getElem?_eq_some_iff.mp hy
          have := (List.getElem_inj b.nd).mp (e1.trans e2.symm)
          omega
      refine cut_back N f s hn hx hxi n (w :: l) (by rw [List.length_cons]; omega) ⟨fun i a c ha hc => ?_, fun i hi => ?_, fun i a ha => ?_, by simp, List.nodup_cons.mpr ⟨wn, b.nd⟩⟩ (fun z hz => ?_)
      · cases i with
        | zero =>
          simp only [List.getElem?_cons_zero, Option.some.injEq] at ha
          subst ha
          simp only [List.getElem?_cons_succ] at hc
          rw [hy] at hc
          cases hc
          exact hu
        | succ i =>
          simp only [List.getElem?_cons_succ] at ha hc
          exact b.st i a c ha hc
      · cases i with
        | zero => exact absurd hi (by rw [List.length_cons]; omega)
        | succ i =>
          simp only [List.getElem?_cons_succ]
          exact b.last i (by simpa using hi)
      · cases i with
        | zero =>
          simp only [List.getElem?_cons_zero, Option.some.injEq] at ha
          subst ha
          exact ⟨kwi, fun _ => kw⟩
        | succ i =>
          simp only [List.getElem?_cons_succ] at ha
          obtain ⟨q1, q2⟩ := b.ks i a ha
          exact ⟨q1, fun q => q2 (by simpa using q)⟩
      · rcases List.mem_cons.mp hz with rfl | hz
        · exact hn _ _ (f.sub _ _ hg2) wg
        · exact hm z hz
/-- a piece of a chain from its start lies within the whole chain -/
theorem Lk.within (f : Flow E F goal) {m l : List Tx} (hm : Lk F goal m) (hl : Full F goal l) (h0 : m[0]? = l[0]?) : ∀ (i : Nat) x, m[i]? = some x → l[i]? = some x
  | 0, x, h => by rw [← h0]; exact h
  | i + 1, x, h => by
    have hi : i < m.length := by have := (List.getElem?_eq_some_iff.mp h).1; omega
    have q := Lk.within f hm hl h0 i m[i] (List.getElem?_eq_getElem hi)
    have hF := hm.st i _ x (List.getElem?_eq_getElem hi) h
    have hli : i < l.length := (List.getElem?_eq_some_iff.mp q).1
    by_cases e : i + 1 = l.length
    · have := f.outU _ _ _ (by simp) hF (hl.last i _ e q)
      injection this with this
      exact absurd this (hm.ng x (List.mem_of_getElem? h))
    · obtain ⟨z, hz⟩ : ∃ z, l[i + 1]? = some z := ⟨l[i + 1]'(by omega), List.getElem?_eq_getElem (by omega)⟩
      have := f.outU _ _ _ (by simp) hF (hl.st i _ z q hz)
      injection this with this
      rw [hz, this]
/-- all chains of a flow -/
structure Chains (F : Kn → Kn → Prop) (goal : Tx) (cs : List (List Tx)) : Prop where
  full : ∀ c ∈ cs, Full F goal c
  apart : Apart cs
  all : ∀ s, F .src (.inn s) → ∃ c ∈ cs, c[0]? = some s
theorem cut_size (N : IsNet E es starts goal) (f : Flow E F goal) (s : Seen E F goal K) (hc : ∀ x, x ∈ cut ↔ K (.inn x) ∧ ¬ K (.out x)) (nd : cut.Nodup) (hn : ∀ h y, E h (.inn y) → y ≠ goal → y ∈ names) (hk : ∀ x ∈ cut, x ∈ names) (C : Chains F goal cs) : cut.length = cs.length := by
  refine Nat.le_antisymm (cover_le nd (fun x hx => ?_) fun c hcc => cut_one N f s hc (C.full c hcc).toLk) (apart_le C.apart fun c hcc => cut_has N f s hc (C.full c hcc))
  obtain ⟨h1, h2⟩ := (hc x).mp hx
  obtain ⟨m, hm, hxm⟩ := cut_back (names := names) N f s hn h2 h1 names.length [x] (by simp) ⟨fun i a b ha hb => by simp at hb, fun i hi => by
      have : i = 0 := by simpa using hi
      subst this
      rfl, fun i a ha => by
      cases i with
      | zero =>
        cases ha
        exact ⟨h1, fun q => (q rfl).elim⟩
      | succ i => simp at ha, by simp, by simp⟩ (fun y hy => by
      simp only [List.mem_singleton] at hy
      subst hy
      exact hk _ hx)
  obtain ⟨y, hy⟩ : ∃ y, m[0]? = some y := ⟨m[0]'(List.length_pos_iff.mpr hm.ne), List.getElem?_eq_getElem _⟩
  obtain ⟨c, hcc, hc0⟩ := C.all y (hm.hd y hy)
  obtain ⟨i, hi, ex⟩ := List.mem_iff_getElem.mp hxm
  have := Lk.within f hm (C.full c hcc) (hy.trans hc0.symm) i x (by rw [List.getElem?_eq_getElem hi, ex])
  exact ⟨c, hcc, List.mem_of_getElem? this⟩
/-- no chain goes round the cut -/
theorem cut_meets (N : IsNet E es starts goal) (s : Seen E F goal K) (hc : ∀ x, x ∈ cut ↔ K (.inn x) ∧ ¬ K (.out x)) : ¬ Meets es starts goal cut := by
  have all : ∀ x, Reach es starts goal cut x → x ≠ goal ∧ K (.out x) := fun x r => by
    have out : ∀ {x}, K (.inn x) → x ∉ cut → K (.out x) := fun {x} h1 h2 => Classical.byContradiction fun q => h2 ((hc x).mpr ⟨h1, q⟩)
    induction r with
    | start h1 h2 h3 => exact ⟨h2, out (s.go _ _ s.src (.inl ⟨(N.ss _).mpr ⟨_, rfl, h1, h2⟩, .inr rfl⟩)) h3⟩
    | @step y x r e g c ih =>
      refine ⟨g, ?_⟩
      by_cases h : y = x
      · subst h
        exact ih.2
      · exact out (s.go _ _ ih.2 (.inl ⟨(N.oi y _).mpr ⟨x, rfl, e, ih.1, h⟩, .inr rfl⟩)) c
  rintro ⟨y, r, e⟩
  obtain ⟨h1, h2⟩ := all y r
  exact s.no (s.go _ _ h2 (.inl ⟨(N.oi y _).mpr ⟨goal, rfl, e, h1, h1⟩, .inr rfl⟩))
/-! ### chains as the laws see them -/
/-- a chain from a start by edges to the goal -/
structure Chain (es : List (Tx × Tx)) (starts : List Tx) (goal : Tx) (l : List Tx) : Prop where
  ne : l ≠ []
  hd : ∀ x, l[0]? = some x → x ∈ starts
  st : ∀ (i : Nat) a b, l[i]? = some a → l[i + 1]? = some b → (a, b) ∈ es
  last : ∀ i z, i + 1 = l.length → l[i]? = some z → (z, goal) ∈ es
  ng : goal ∉ l
  nd : l.Nodup
theorem Full.chain (N : IsNet E es starts goal) (f : Flow E F goal) {l : List Tx} (h : Full F goal l) : Chain es starts goal l := by
  refine ⟨h.ne, fun x hx => ?_, fun i a b ha hb => ?_, fun i z hi hz => ?_, fun q => h.ng goal q rfl, h.toLk.nodup f⟩
  · obtain ⟨s, e, hs, _⟩ := (N.ss _).mp (f.sub _ _ (h.hd x hx))
    cases e
    exact hs
  · obtain ⟨y, e, he, _⟩ := (N.oi a _).mp (f.sub _ _ (h.st i a b ha hb))
    cases e
    exact he
  · obtain ⟨y, e, he, _⟩ := (N.oi z _).mp (f.sub _ _ (h.last i z hi hz))
    cases e
    exact he
/-- a set of names that all chains meet has one of each -/
theorem Chain.met {l some : List Tx} (h : Chain es starts goal l) (hm : ¬ Meets es starts goal some) : ∃ x ∈ l, x ∈ some ∧ x ≠ goal := by
  refine Classical.byContradiction fun no => ?_
  have no : ∀ x ∈ l, x ∉ some := fun x h1 h2 => no ⟨x, h1, h2, fun e => h.ng (e ▸ h1)⟩
  have ng : ∀ x ∈ l, x ≠ goal := fun x hx e => h.ng (e ▸ hx)
  have all : ∀ (i : Nat) x, l[i]? = .some x → Reach es starts goal some x := by
    intro i
    induction i with
    | zero =>
      intro x hx
      have hm := List.mem_of_getElem? hx
      exact .start (h.hd x hx) (ng x hm) (no x hm)
    | succ i ih =>
      intro x hx
      have hi : i < l.length := by have := (List.getElem?_eq_some_iff.mp hx).1; omega
      have hm := List.mem_of_getElem? hx
      exact .step (ih l[i] (List.getElem?_eq_getElem hi)) (h.st i _ x (List.getElem?_eq_getElem hi) hx) (ng x hm) (no x hm)
  have hp : 0 < l.length := List.length_pos_iff.mpr h.ne
  have hz : l[l.length - 1]? = .some (l[l.length - 1]'(by omega)) := List.getElem?_eq_getElem (by omega)
  exact hm ⟨_, all _ _ hz, h.last (l.length - 1) _ (by omega) hz⟩
/-- as many as can be -/
structure Best (es : List (Tx × Tx)) (starts : List Tx) (goal : Tx) (cs : List (List Tx)) (cut : List Tx) : Prop where
  chain : ∀ c ∈ cs, Chain es starts goal c
  apart : Apart cs
  nd : cut.Nodup
  size : cut.length = cs.length
  ng : goal ∉ cut
  meets : ¬ Meets es starts goal cut
theorem Best.le {some : List Tx} (b : Best es starts goal cs cut) (hm : ¬ Meets es starts goal some) : cs.length ≤ (some.filter fun x => decide (x ≠ goal)).length :=
  apart_le b.apart fun c hc => by
    obtain ⟨x, h1, h2, h3⟩ := (b.chain c hc).met hm
    exact ⟨x, h1, List.mem_filter.mpr ⟨h2, by simpa using h3⟩⟩
end
end VI

/-! Wv: the program's webs in the store, its chains (for any table that has these defs; the IR is printed by wvhead.py). -/
namespace VI
def Small (x : Tx) : Prop := ∀ c ∈ x, c < 128
theorem plain_str {x : Tx} {n : Nat} (h : Small x) : plain (.str x) n = true := by
  simp only [plain, List.all_eq_true, decide_eq_true_eq]
  intro c hc
  have := h c hc
  omega
/-! ### knots as data -/
def tSRC : Tx := [115, 111, 117, 114, 99, 101]
def tIN : Tx := [105, 110]
def tOUT : Tx := [111, 117, 116]
def kD : Kn → D
  | .src => .tup [.str tSRC, .str []]
  | .inn x => .tup [.str tIN, .str x]
  | .out x => .tup [.str tOUT, .str x]
def pD (p : Kn × Kn) : D := .tup [kD p.1, kD p.2]
theorem kD_inj {a b : Kn} (h : kD a = kD b) : a = b := by
  cases a <;> cases b <;> simp [kD, tSRC, tIN, tOUT] at h <;> first | rfl | (subst h; rfl)
theorem pD_inj {a b : Kn × Kn} (h : pD a = pD b) : a = b := by
  obtain ⟨a1, a2⟩ := a
  obtain ⟨b1, b2⟩ := b
  simp only [pD, D.tup.injEq, List.cons.injEq, and_true] at h
  rw [kD_inj h.1, kD_inj h.2]
theorem key_kD (k : Kn) : keyFor 1 (kD k) = true := by cases k <;> simp [keyFor, kD, tupK, flatK]
theorem key_pD (p : Kn × Kn) : keyFor 1 (pD p) = true := by
  obtain ⟨a, b⟩ := p
  cases a <;> cases b <;> simp [keyFor, pD, kD, pairK, tupK, flatK]
theorem closed_kD (k : Kn) : closed (kD k) = true := by cases k <;> simp [closed, closedL, kD]
theorem closedL_kD (l : List Kn) : closedL (l.map kD) = true := by
  induction l with
  | nil => rfl
  | cons x r ih => simp [closedL, closed_kD, ih]
def SmallK : Kn → Prop
  | .src => True
  | .inn x => Small x
  | .out x => Small x
theorem plain_tup2 (x y : D) (n : Nat) : plain (.tup [x, y]) (n + 1) = (plain x n && (plain y n && true)) := by simp only [plain, plainL]
theorem plain_kD {k : Kn} (h : SmallK k) {n : Nat} : plain (kD k) (n + 1) = true := by
  have s1 : Small tSRC := by unfold Small tSRC; decide
  have s2 : Small tIN := by unfold Small tIN; decide
  have s3 : Small tOUT := by unfold Small tOUT; decide
  have s0 : Small [] := by unfold Small; simp
  cases k with
  | src => rw [kD, plain_tup2, plain_str s1, plain_str s0]; rfl
  | inn x => rw [kD, plain_tup2, plain_str s2, plain_str (show Small x from h)]; rfl
  | out x => rw [kD, plain_tup2, plain_str s3, plain_str (show Small x from h)]; rfl
theorem pyeq_kD (a b : Kn) : pyeq (kD a) (kD b) = decide (a = b) := by
  cases a <;> cases b <;> simp [kD, pyeq, pyeqL, tSRC, tIN, tOUT]
theorem eqv_kD {U : Store} {a b : Kn} (ha : SmallK a) (hb : SmallK b) : eqv U (kD a) (kD b) = some (decide (a = b)) := by
  have hs : scalS (kD a) (kD b) = false := by cases a <;> cases b <;> rfl
  unfold eqv
  rw [hs, snap_closed (closed_kD a), snap_closed (closed_kD b)]
  simp only [Bool.false_eq_true, if_false, plain_kD ha, plain_kD hb, Bool.and_self, if_true, pyeq_kD]
theorem cmp_ne_kD {U : Store} {a b : Kn} (ha : SmallK a) (hb : SmallK b) : cmpop .ne U (kD a) (kD b) = some (!decide (a = b)) := by
  simp only [cmpop, eqv_kD ha hb, Option.map_some]
/-! ### dicts of knots, of arcs -/
section
variable {α : Type} [DecidableEq α] {g : α → D} {f : α → D}
theorem lookG (hg : ∀ {a b}, g a = g b → a = b) (f : α → D) (k : α) : ∀ ks : List α, lookD (ks.map fun k => (g k, f k)) (g k) = if k ∈ ks then some (f k) else none
  | [] => by simp [lookD]
  | x :: r => by
    simp only [List.map_cons, lookD]
    by_cases e : x = k
    · subst e
      simp
    · have : g x ≠ g k := fun q => e (hg q)
      have e2 : ¬ k = x := fun q => e q.symm
      simp [this, lookG hg f k r, e2]
theorem putG (hg : ∀ {a b}, g a = g b → a = b) (f : α → D) (k : α) (v : D) : ∀ ks : List α, k ∉ ks → putD (ks.map fun k => (g k, f k)) (g k) v = (ks.map fun k => (g k, f k)) ++ [(g k, v)]
  | [], _ => rfl
  | x :: r, h => by
    have e : ¬ g x = g k := fun q => h (by rw [hg q]; simp)
    simp only [List.map_cons, putD, if_neg e, putG hg f k v r (fun q => h (by simp [q])), List.cons_append]
theorem putS (hg : ∀ {a b}, g a = g b → a = b) (v : D) (k : α) : ∀ ks : List α, k ∈ ks → putD (ks.map fun k => (g k, v)) (g k) v = ks.map fun k => (g k, v)
  | x :: r, h => by
    by_cases e : x = k
    · subst e
      simp [putD]
    · have e1 : ¬ g x = g k := fun q => e (hg q)
      have hr : k ∈ r := by
        rcases List.mem_cons.mp h with q | q
        · exact (e q.symm).elim
        · exact q
      simp only [List.map_cons, putD, if_neg e1, putS hg v k r hr]
theorem dropG [BEq α] [LawfulBEq α] (hg : ∀ {a b}, g a = g b → a = b) (v : D) (k : α) : ∀ ks : List α, dropD (ks.map fun k => (g k, v)) (g k) = (ks.erase k).map fun k => (g k, v)
  | [] => rfl
  | x :: r => by
    by_cases e : x = k
    · subst e
      simp [dropD]
    · have e1 : ¬ g x = g k := fun q => e (hg q)
      have e2 : (x == k) = false := beq_eq_false_iff_ne.mpr e
      simp only [List.map_cons, dropD, if_neg e1, dropG hg v k r, List.erase_cons, e2, Bool.false_eq_true, if_false]
end
/-- a knot in a dict of knots -/
theorem mem_kD {U : Store} {d : D} {k : Kn} {ks : List Kn} {f : Kn → D} (h : asD U d = some (1, ks.map fun k => (kD k, f k))) : hasD U (kD k) d = some (decide (k ∈ ks)) := by
  unfold hasD
  rw [h]
  simp only [key_kD, if_true, lookG kD_inj]
  by_cases q : k ∈ ks <;> simp [q]
theorem mem_pD {U : Store} {d : D} {p : Kn × Kn} {us : List (Kn × Kn)} (h : asD U d = some (1, us.map fun p => (pD p, D.bl true))) : hasD U (pD p) d = some (decide (p ∈ us)) := by
  unfold hasD
  rw [h]
  simp only [key_pD, if_true, lookG pD_inj (fun _ => D.bl true)]
  by_cases q : p ∈ us <;> simp [q]
theorem member_tup {U : Store} {xs : List D} {n : Nat} {t : Nat} {kvs : List (D × D)} (h : U[n]? = some (.dct t kvs)) : member U (.tup xs) (.ref n) = hasD U (.tup xs) (.ref n) := by
  unfold member
  have : asQ U (.ref n) = none := by simp [asQ, asL, h]
  simp only [this]
theorem member_tupD {U : Store} {xs : List D} {t : Nat} {kvs : List (D × D)} : member U (.tup xs) (.dct t kvs) = hasD U (.tup xs) (.dct t kvs) := by
  unfold member
  have : asQ U (.dct t kvs) = none := rfl
  simp only [this]
/-! ### a walk over a list of the store -/
def liveG (n k i : Nat) (U : Store) : Option D := match U[n]? with
  | some (.lst ys) => if ys.length = k then ys[i]? else none
  | _ => none
theorem forGo_lv {α : Type} {turn : D → Rho → Store → Option RS} {n : Nat} (g : α → D) (ls : List α) (J : List α → Rho → Store → Prop) (hJ : ∀ d ρ U, J d ρ U → U[n]? = some (.lst (ls.map g))) (E : RS → Prop)
    (st : ∀ d x r ρ U, ls = d ++ x :: r → J d ρ U → (∃ ρ' U', turn (g x) ρ U = some (.nx ρ' U') ∧ J (d ++ [x]) ρ' U') ∨ ∃ v U', turn (g x) ρ U = some (.rt v U') ∧ E (.rt v U')) :
    ∀ (r d : List α) ρ U, ls = d ++ r → J d ρ U → (∃ ρ' U', forGo (liveS n ls.length).fin turn ((List.range' d.length r.length).map fun i => liveG n ls.length i) ρ U = some (.nx ρ' U') ∧ J ls ρ' U') ∨
      ∃ v U', forGo (liveS n ls.length).fin turn ((List.range' d.length r.length).map fun i => liveG n ls.length i) ρ U = some (.rt v U') ∧ E (.rt v U')
  | [], d, ρ, U, e, h => by
    rw [List.append_nil] at e
    subst e
    refine .inl ⟨ρ, U, ?_, h⟩
    have hu := hJ _ _ _ h
    simp only [List.length_nil, List.range'_zero, List.map_nil, forGo, liveS, hu, List.length_map, decide_true, if_true]
  | x :: r, d, ρ, U, e, h => by
    have hu := hJ _ _ _ h
    have hg : liveG n ls.length d.length U = some (g x) := by
      unfold liveG
      rw [hu]
      simp only [List.length_map, if_true, List.getElem?_map]
      rw [e, List.getElem?_append_right (Nat.le_refl _)]
      simp
    rcases st d x r ρ U e h with ⟨ρ', U', e1, h1⟩ | ⟨v, U', e1, h1⟩
    · have ih := forGo_lv g ls J hJ E st r (d ++ [x]) ρ' U' (by rw [e]; simp) h1
      rw [List.length_append, List.length_singleton] at ih
      simp only [List.length_cons, List.range'_succ, List.map_cons, forGo, hg, e1, turnEnd_nx]
      exact ih
    · refine .inr ⟨v, U', ?_, h1⟩
      simp only [List.length_cons, List.range'_succ, List.map_cons, forGo, hg, e1, turnEnd_rt]
theorem forLive {α : Type} {turn : D → Rho → Store → Option RS} {n : Nat} (g : α → D) (ls : List α) (J : List α → Rho → Store → Prop) (hJ : ∀ d ρ U, J d ρ U → U[n]? = some (.lst (ls.map g))) (E : RS → Prop)
    (st : ∀ d x r ρ U, ls = d ++ x :: r → J d ρ U → (∃ ρ' U', turn (g x) ρ U = some (.nx ρ' U') ∧ J (d ++ [x]) ρ' U') ∨ ∃ v U', turn (g x) ρ U = some (.rt v U') ∧ E (.rt v U')) (ρ : Rho) (U : Store) (h : J [] ρ U) :
    (∃ ρ' U', forGo (liveS n (ls.map g).length).fin turn (liveS n (ls.map g).length).get ρ U = some (.nx ρ' U') ∧ J ls ρ' U') ∨ ∃ v U', forGo (liveS n (ls.map g).length).fin turn (liveS n (ls.map g).length).get ρ U = some (.rt v U') ∧ E (.rt v U') := by
  have e : (liveS n (ls.map g).length).get = (List.range' ([] : List α).length ls.length).map fun i => liveG n ls.length i := by
    simp only [liveS, List.length_map, List.length_nil, List.range_eq_range']
    rfl
  have := forGo_lv g ls J hJ E st ls [] ρ U rfl h
  rw [e]
  simp only [List.length_map] at this ⊢
  exact this
/-! ### a web in the store -/
structure WAt (U : Store) (n : Nat) (goal : Tx) (ks : List Kn) (L B : Kn → List Kn) (us : List (Kn × Kn)) (a b c : Nat) (la lb : Kn → Nat) : Prop where
  obj : U[n]? = some (.ins "Web" [("goal", kD (.inn goal)), ("leads", .ref a), ("backs", .ref b), ("used", .ref c)])
  dl : U[a]? = some (.dct 1 (ks.map fun k => (kD k, .ref (la k))))
  db : U[b]? = some (.dct 1 (ks.map fun k => (kD k, .ref (lb k))))
  du : U[c]? = some (.dct 1 (us.map fun p => (pD p, .bl true)))
  lla : ∀ k ∈ ks, U[la k]? = some (.lst ((L k).map kD))
  llb : ∀ k ∈ ks, U[lb k]? = some (.lst ((B k).map kD))
  nd : (n :: a :: b :: c :: (ks.map la ++ ks.map lb)).Nodup
section
variable {U V : Store} {n : Nat} {goal : Tx} {ks : List Kn} {L B : Kn → List Kn} {us : List (Kn × Kn)} {a b c : Nat} {la lb : Kn → Nat}
theorem get_app {o : MO} {i : Nat} (h : U[i]? = some o) : (U ++ V)[i]? = some o := by
  rw [List.getElem?_append_left (List.getElem?_eq_some_iff.mp h).1, h]
theorem WAt.app (w : WAt U n goal ks L B us a b c la lb) : WAt (U ++ V) n goal ks L B us a b c la lb :=
  ⟨get_app w.obj, get_app w.dl, get_app w.db, get_app w.du, fun k hk => get_app (w.lla k hk), fun k hk => get_app (w.llb k hk), w.nd⟩
theorem WAt.fgoal (w : WAt U n goal ks L B us a b c la lb) : getFld (.ref n) "goal" U = some (.ok (kD (.inn goal)) U) := by simp [getFld, w.obj]
theorem WAt.fleads (w : WAt U n goal ks L B us a b c la lb) : getFld (.ref n) "leads" U = some (.ok (.ref a) U) := by simp [getFld, w.obj, List.lookup]
theorem WAt.fbacks (w : WAt U n goal ks L B us a b c la lb) : getFld (.ref n) "backs" U = some (.ok (.ref b) U) := by simp [getFld, w.obj, List.lookup]
theorem WAt.fused (w : WAt U n goal ks L B us a b c la lb) : getFld (.ref n) "used" U = some (.ok (.ref c) U) := by simp [getFld, w.obj, List.lookup]
theorem index_dct {o k v : D} {t : Nat} {kvs : List (D × D)} (h1 : asQ U o = none) (h2 : asD U o = some (t, kvs)) (hk : keyFor t k = true) (hv : lookD kvs k = some v) (hs : ∀ x, o ≠ .str x) : index1 o k U = some (.ok v U) := by
  unfold index1
  split
  · rename_i x i
    exact absurd rfl (hs x)
  · simp only [h1, h2, hk, if_true, hv]
theorem WAt.ileads (w : WAt U n goal ks L B us a b c la lb) {k : Kn} (hk : k ∈ ks) : index1 (.ref a) (kD k) U = some (.ok (.ref (la k)) U) :=
  index_dct (t := 1) (kvs := ks.map fun k => (kD k, .ref (la k))) (by simp [asQ, asL, w.dl]) (by simp [asD, w.dl]) (key_kD k) (by rw [lookG kD_inj (fun k => D.ref (la k)), if_pos hk]) (fun x h => by cases h)
theorem WAt.ibacks (w : WAt U n goal ks L B us a b c la lb) {k : Kn} (hk : k ∈ ks) : index1 (.ref b) (kD k) U = some (.ok (.ref (lb k)) U) :=
  index_dct (t := 1) (kvs := ks.map fun k => (kD k, .ref (lb k))) (by simp [asQ, asL, w.db]) (by simp [asD, w.db]) (key_kD k) (by rw [lookG kD_inj (fun k => D.ref (lb k)), if_pos hk]) (fun x h => by cases h)
theorem WAt.mused (w : WAt U n goal ks L B us a b c la lb) (p q : Kn) : member U (.tup [kD p, kD q]) (.ref c) = some (decide ((p, q) ∈ us)) := by
  rw [member_tup w.du]
  exact mem_pD (p := (p, q)) (by simp [asD, w.du])
theorem WAt.mleads (w : WAt U n goal ks L B us a b c la lb) (k : Kn) : member U (kD k) (.ref a) = some (decide (k ∈ ks)) := by
  have : member U (kD k) (.ref a) = hasD U (kD k) (.ref a) := by
    cases k <;> exact member_tup w.dl
  rw [this]
  exact mem_kD (f := fun k => .ref (la k)) (by simp [asD, w.dl])
end
def gS : IE := .glo "SOURCE" (.tup [(.str [115, 111, 117, 114, 99, 101]), (.str [])])
theorem ev_gS {C : Cal} {ρ : Rho} {U : Store} : ev C gS ρ U = some (.ok (kD .src) U) := by
  simp [gS, ev, kD, tSRC]
def W_Web___init___1 : ISs := (.cons (.ifS (.cmp .ne (.var 4) (.var 3))
 (.cons (.expr (.meth false "Web" "lead" (.var 0) (.cons gS (.cons (.tup (.cons (.cst (.str [105, 110])) (.cons (.var 4) .nil))) .nil))))
 (.cons (.expr (.meth false "Web" "lead" (.var 0) (.cons (.tup (.cons (.cst (.str [105, 110])) (.cons (.var 4) .nil))) (.cons (.tup (.cons (.cst (.str [111, 117, 116])) (.cons (.var 4) .nil))) .nil))))
 .nil))
 .nil)
 .nil)
def W_Web___init___2 : ISs := (.cons (.ifS (.andE (.cmp .ne (.var 5) (.var 3)) (.cmp .ne (.var 5) (.var 6)))
 (.cons (.expr (.meth false "Web" "lead" (.var 0) (.cons (.tup (.cons (.cst (.str [105, 110])) (.cons (.var 5) .nil))) (.cons (.tup (.cons (.cst (.str [111, 117, 116])) (.cons (.var 5) .nil))) .nil))))
 (.cons (.expr (.meth false "Web" "lead" (.var 0) (.cons (.tup (.cons (.cst (.str [111, 117, 116])) (.cons (.var 5) .nil))) (.cons (.tup (.cons (.cst (.str [105, 110])) (.cons (.var 6) .nil))) .nil))))
 (.cons (.ifS (.cmp .ne (.var 6) (.var 3))
 (.cons (.expr (.meth false "Web" "lead" (.var 0) (.cons (.tup (.cons (.cst (.str [105, 110])) (.cons (.var 6) .nil))) (.cons (.tup (.cons (.cst (.str [111, 117, 116])) (.cons (.var 6) .nil))) .nil))))
 .nil)
 .nil)
 .nil)))
 .nil)
 .nil)
def W_Web___init__ : Fn := ⟨4, 7,
 (.cons (.asgF (.var 0) "goal" (.tup (.cons (.cst (.str [105, 110])) (.cons (.var 3) .nil))))
 (.cons (.asgF (.var 0) "leads" (.done true 1 gS (.lst true .nil)))
 (.cons (.asgF (.var 0) "backs" (.done true 1 gS (.lst true .nil)))
 (.cons (.asgF (.var 0) "used" (.dnil true 1))
 (.cons (.forS (.var 4) (.seq (.var 2)) W_Web___init___1)
 (.cons (.forS (.tup [5, 6]) (.seq (.var 1)) W_Web___init___2)
 .nil))))))⟩
def W_Web_lead_1 : ISs := (.cons (.ifS (.cmp .notIn (.var 3) (.fld (.var 0) "leads"))
 (.cons (.asgI (.fld (.var 0) "leads") (.var 3) (.lst true .nil))
 (.cons (.asgI (.fld (.var 0) "backs") (.var 3) (.lst true .nil))
 .nil))
 .nil)
 .nil)
def W_Web_lead : Fn := ⟨3, 4,
 (.cons (.forS (.var 3) (.seq (.tup (.cons (.var 1) (.cons (.var 2) .nil)))) W_Web_lead_1)
 (.cons (.ifS (.cmp .notIn (.var 2) (.idx (.fld (.var 0) "leads") (.var 1)))
 (.cons (.expr (.prim .append false (.cons (.idx (.fld (.var 0) "leads") (.var 1)) (.cons (.var 2) .nil))))
 (.cons (.expr (.prim .append false (.cons (.idx (.fld (.var 0) "backs") (.var 2)) (.cons (.var 1) .nil))))
 .nil))
 .nil)
 .nil))⟩
def W_Web_steps_1 : ISs := (.cons (.ifS (.orE (.cmp .notIn (.tup (.cons (.var 1) (.cons (.var 3) .nil))) (.fld (.var 0) "used")) (.cmp .ne (.idx (.var 1) (.cst (.int 0))) (.cst (.str [105, 110]))))
 (.cons (.expr (.prim .append false (.cons (.var 2) (.cons (.var 3) .nil))))
 .nil)
 .nil)
 .nil)
def W_Web_steps_2 : ISs := (.cons (.ifS (.cmp .isIn (.tup (.cons (.var 3) (.cons (.var 1) .nil))) (.fld (.var 0) "used"))
 (.cons (.expr (.prim .append false (.cons (.var 2) (.cons (.var 3) .nil))))
 .nil)
 .nil)
 .nil)
def W_Web_steps : Fn := ⟨2, 4,
 (.cons (.asg (.var 2) (.lst true .nil))
 (.cons (.forS (.var 3) (.seq (.idx (.fld (.var 0) "leads") (.var 1))) W_Web_steps_1)
 (.cons (.forS (.var 3) (.seq (.idx (.fld (.var 0) "backs") (.var 1))) W_Web_steps_2)
 (.cons (.ret (.var 2))
 .nil))))⟩
def W_Web_reach_1 : IE := (.andE (.cmp .lt (.var 3) (.prim .len false (.cons (.var 2) .nil))) (.cmp .notIn (.fld (.var 0) "goal") (.var 1)))
def W_Web_reach_2 : ISs := (.cons (.ifS (.cmp .notIn (.var 4) (.var 1))
 (.cons (.asgI (.var 1) (.var 4) (.idx (.var 2) (.var 3)))
 (.cons (.expr (.prim .append false (.cons (.var 2) (.cons (.var 4) .nil))))
 .nil))
 .nil)
 .nil)
def W_Web_reach_3 : ISs := (.cons (.forS (.var 4) (.seq (.meth true "Web" "steps" (.var 0) (.cons (.idx (.var 2) (.var 3)) .nil))) W_Web_reach_2)
 (.cons (.aug 3 .add (.cst (.int 1)))
 .nil))
def W_Web_reach : Fn := ⟨1, 5,
 (.cons (.asg (.var 1) (.done true 1 gS gS))
 (.cons (.asg (.var 2) (.lst true (.cons gS .nil)))
 (.cons (.asg (.var 3) (.cst (.int 0)))
 (.cons (.whileS W_Web_reach_1 W_Web_reach_3)
 (.cons (.ret (.var 1))
 .nil)))))⟩
def W_Web_turn_1 : IE := (.cmp .ne (.var 2) gS)
def W_Web_turn_2 : ISs := (.cons (.asg (.var 3) (.idx (.var 1) (.var 2)))
 (.cons (.ifS (.cmp .isIn (.tup (.cons (.var 2) (.cons (.var 3) .nil))) (.fld (.var 0) "used"))
 (.cons (.expr (.prim .popD false (.cons (.fld (.var 0) "used") (.cons (.tup (.cons (.var 2) (.cons (.var 3) .nil))) .nil))))
 .nil)
 (.cons (.asgI (.fld (.var 0) "used") (.tup (.cons (.var 3) (.cons (.var 2) .nil))) (.cst (.bl true)))
 .nil))
 (.cons (.asg (.var 2) (.var 3))
 .nil)))
def W_Web_turn : Fn := ⟨2, 4,
 (.cons (.asg (.var 2) (.fld (.var 0) "goal"))
 (.cons (.whileS W_Web_turn_1 W_Web_turn_2)
 .nil))⟩
def W_Web_behind_1 : ISs := (.cons (.ifS (.cmp .isIn (.tup (.cons (.var 1) (.cons (.var 2) .nil))) (.fld (.var 0) "used"))
 (.cons (.ret (.var 2))
 .nil)
 .nil)
 .nil)
def W_Web_behind : Fn := ⟨2, 3,
 (.cons (.forS (.var 2) (.seq (.idx (.fld (.var 0) "leads") (.var 1))) W_Web_behind_1)
 (.cons (.ret (.fld (.var 0) "goal"))
 .nil))⟩
def W_Web_chains_1 : IE := (.cmp .ne (.var 4) (.fld (.var 0) "goal"))
def W_Web_chains_2 : ISs := (.cons (.expr (.prim .append false (.cons (.var 3) (.cons (.idx (.var 4) (.cst (.int 1))) .nil))))
 (.cons (.asg (.var 4) (.meth true "Web" "behind" (.var 0) (.cons (.tup (.cons (.cst (.str [111, 117, 116])) (.cons (.idx (.var 4) (.cst (.int 1))) .nil))) .nil)))
 .nil))
def W_Web_chains_3 : ISs := (.cons (.ifS (.cmp .isIn (.tup (.cons gS (.cons (.var 2) .nil))) (.fld (.var 0) "used"))
 (.cons (.asg (.var 3) (.lst true .nil))
 (.cons (.asg (.var 4) (.var 2))
 (.cons (.whileS W_Web_chains_1 W_Web_chains_2)
 (.cons (.expr (.prim .append false (.cons (.var 1) (.cons (.var 3) .nil))))
 .nil))))
 .nil)
 .nil)
def W_Web_chains : Fn := ⟨1, 5,
 (.cons (.asg (.var 1) (.lst true .nil))
 (.cons (.forS (.var 2) (.seq (.idx (.fld (.var 0) "leads") gS)) W_Web_chains_3)
 (.cons (.ret (.prim .sorted1 false (.cons (.var 1) .nil)))
 .nil)))⟩
def W_woven_1 : IE := (.andE (.cmp .isIn (.fld (.var 4) "goal") (.var 6)) (.cmp .lt (.var 5) (.var 3)))
def W_woven_2 : ISs := (.cons (.expr (.meth false "Web" "turn" (.var 4) (.cons (.var 6) .nil)))
 (.cons (.aug 5 .add (.cst (.int 1)))
 (.cons (.asg (.var 6) (.meth true "Web" "reach" (.var 4) .nil))
 .nil)))
def W_woven : Fn := ⟨4, 7,
 (.cons (.asg (.var 4) (.make "Web" (.cons (.var 0) (.cons (.var 1) (.cons (.var 2) .nil)))))
 (.cons (.asg (.var 5) (.cst (.int 0)))
 (.cons (.asg (.var 6) (.meth true "Web" "reach" (.var 4) .nil))
 (.cons (.whileS W_woven_1 W_woven_2)
 (.cons (.ret (.tup (.cons (.var 4) (.cons (.var 6) .nil))))
 .nil)))))⟩
def W_apart_chains_1 : IE := (.andE (.cmp .eq (.idx (.var 6) (.cst (.int 0))) (.cst (.str [105, 110]))) (.cmp .notIn (.tup (.cons (.cst (.str [111, 117, 116])) (.cons (.idx (.var 6) (.cst (.int 1))) .nil))) (.var 4)))
def W_apart_chains_2 : IE := (.idx (.var 6) (.cst (.int 1)))
def W_apart_chains : Fn := ⟨3, 7,
 (.cons (.asg (.tup [3, 4]) (.call false "woven" (.cons (.var 0) (.cons (.var 1) (.cons (.var 2) (.cons (.prim .len false (.cons (.var 1) .nil)) .nil))))))
 (.cons (.asg (.var 5) (.lc false [6] (.var 6) (.keys 4) W_apart_chains_1 W_apart_chains_2))
 (.cons (.ret (.tup (.cons (.meth true "Web" "chains" (.var 3) .nil) (.cons (.prim .sorted1 false (.cons (.var 5) .nil)) .nil))))
 .nil)))⟩
/-! ### steps -/
def tagK : Kn → Tx
  | .src => tSRC
  | .inn _ => tIN
  | .out _ => tOUT
def nameK : Kn → Tx
  | .src => []
  | .inn x => x
  | .out x => x
theorem idx0 {U : Store} (k : Kn) : index1 (kD k) (.int 0) U = some (.ok (.str (tagK k)) U) := by
  cases k <;> simp [index1, kD, asQ, atI, ixN, tagK]
theorem idx1 {U : Store} (k : Kn) : index1 (kD k) (.int 1) U = some (.ok (.str (nameK k)) U) := by
  cases k <;> simp [index1, kD, asQ, atI, ixN, nameK]
theorem tag_in (k : Kn) : decide (tagK k = [105, 110]) = isIn k := by
  cases k <;> simp [tagK, isIn, tSRC, tIN, tOUT]
structure SR (ρ : Rho) (n r : Nat) (h : Kn) : Prop where
  len : ρ.length = 4
  h0 : ρ[0]? = some (some (.ref n))
  h1 : ρ[1]? = some (some (kD h))
  h2 : ρ[2]? = some (some (.ref r))
theorem SR.set {ρ : Rho} {n r : Nat} {h : Kn} {o : Option D} (s : SR ρ n r h) : SR (ρ.set 3 o) n r h :=
  ⟨by rw [List.length_set]; exact s.len, by rw [get_set_ne (by omega)]; exact s.h0, by rw [get_set_ne (by omega)]; exact s.h1, by rw [get_set_ne (by omega)]; exact s.h2⟩
section
variable {U : Store} {n : Nat} {goal : Tx} {ks : List Kn} {L B : Kn → List Kn} {us : List (Kn × Kn)} {a b c : Nat} {la lb : Kn → Nat} {C : Cal}
def goOn (us : List (Kn × Kn)) (h t : Kn) : Bool := !decide ((h, t) ∈ us) || !isIn h
def goBack (us : List (Kn × Kn)) (h t : Kn) : Bool := decide ((t, h) ∈ us)
def stepsL (L B : Kn → List Kn) (us : List (Kn × Kn)) (h : Kn) : List Kn := (L h).filter (goOn us h) ++ (B h).filter (goBack us h)
theorem app_kD {U : Store} {xs : List Kn} {t : Kn} (hz : xs.length < SZ) : prim .append false [.ref U.length, kD t] (U ++ [.lst (xs.map kD)]) = some (.ok .non (U ++ [.lst ((xs ++ [t]).map kD)])) := by
  have hl : (xs.map kD).length < SZ := by simpa using hz
  simp only [prim, get_end, hl, if_true, upd_end]
  simp
theorem steps_on (w : WAt U n goal ks L B us a b c la lb) {ρ : Rho} {h t : Kn} {xs : List Kn} (s : SR ρ n U.length h) (h3 : ρ[3]? = some (some (kD t))) (hz : xs.length < SZ) :
    execs C W_Web_steps_1 ρ (U ++ [.lst (xs.map kD)]) = some (.nx ρ (U ++ [.lst ((if goOn us h t then xs ++ [t] else xs).map kD)])) := by
  have w' := w.app (V := [.lst (xs.map kD)])
  by_cases q : (h, t) ∈ us
  · by_cases q2 : isIn h = true
    · have : goOn us h t = false := by simp [goOn, q, q2]
      simp only [W_Web_steps_1, execs, exec, evB, ev, evs, s.h0, s.h1, h3, bnd_ok, w'.fused, cmp_notIn, w'.mused, q, decide_true, Option.map_some, Bool.not_true, tru_bl, Bool.false_eq_true, if_false, idx0, cmp_ne_str, tag_in, q2, bndS_ok, thn_nx, this]
    · simp only [Bool.not_eq_true] at q2
      have : goOn us h t = true := by simp [goOn, q2]
      simp only [W_Web_steps_1, execs, exec, evB, ev, evs, s.h0, s.h1, s.h2, h3, bnd_ok, w'.fused, cmp_notIn, w'.mused, q, decide_true, Option.map_some, Bool.not_true, tru_bl, Bool.false_eq_true, if_false, idx0, cmp_ne_str, tag_in, q2, Bool.not_false, if_true, bndS_ok, thn_nx, this, recvOk, asL, get_end, Option.isSome_some, app_kD hz]
  · have : goOn us h t = true := by simp [goOn, q]
    simp only [W_Web_steps_1, execs, exec, evB, ev, evs, s.h0, s.h1, s.h2, h3, bnd_ok, w'.fused, cmp_notIn, w'.mused, q, decide_false, Option.map_some, Bool.not_false, tru_bl, if_true, bndS_ok, thn_nx, this, recvOk, asL, get_end, Option.isSome_some, app_kD hz]
theorem steps_back (w : WAt U n goal ks L B us a b c la lb) {ρ : Rho} {h t : Kn} {xs : List Kn} (s : SR ρ n U.length h) (h3 : ρ[3]? = some (some (kD t))) (hz : xs.length < SZ) :
    execs C W_Web_steps_2 ρ (U ++ [.lst (xs.map kD)]) = some (.nx ρ (U ++ [.lst ((if goBack us h t then xs ++ [t] else xs).map kD)])) := by
  have w' := w.app (V := [.lst (xs.map kD)])
  by_cases q : (t, h) ∈ us
  · have : goBack us h t = true := by simp [goBack, q]
    simp only [W_Web_steps_2, execs, exec, evB, ev, evs, s.h0, s.h1, s.h2, h3, bnd_ok, w'.fused, cmp_in, w'.mused, q, decide_true, tru_bl, if_true, bndS_ok, thn_nx, this, recvOk, asL, get_end, Option.isSome_some, app_kD hz]
  · have : goBack us h t = false := by simp [goBack, q]
    simp only [W_Web_steps_2, execs, exec, evB, ev, evs, s.h0, s.h1, s.h2, h3, bnd_ok, w'.fused, cmp_in, w'.mused, q, decide_false, tru_bl, Bool.false_eq_true, if_false, bndS_ok, thn_nx, this]
theorem steps_loop {body : ISs} {p : Kn → Bool} {h : Kn} {m : Nat} {ls xs0 : List Kn} (hm : U[m]? = some (.lst (ls.map kD))) (hz : xs0.length + ls.length < SZ)
    (hb : ∀ ρ xs t, SR ρ n U.length h → ρ[3]? = some (some (kD t)) → xs.length < SZ → execs C body ρ (U ++ [.lst (xs.map kD)]) = some (.nx ρ (U ++ [.lst ((if p t then xs ++ [t] else xs).map kD)]))) {ρ : Rho} (s : SR ρ n U.length h) :
    ∃ ρ', forGo (liveS m (ls.map kD).length).fin (turnF (.var 3) (execs C body)) (liveS m (ls.map kD).length).get ρ (U ++ [.lst (xs0.map kD)]) = some (.nx ρ' (U ++ [.lst ((xs0 ++ ls.filter p).map kD)])) ∧ SR ρ' n U.length h := by
  have key := forLive (turn := turnF (.var 3) (execs C body)) (n := m) kD ls (fun d ρ V => SR ρ n U.length h ∧ V = U ++ [.lst ((xs0 ++ d.filter p).map kD)]) (fun d ρ V ⟨_, e⟩ => by rw [e]; exact get_app hm) (fun _ => False)
    (fun d x r ρ V e ⟨s, ev⟩ => by
      subst ev
      refine .inl ⟨ρ.set 3 (some (kD x)), _, hb _ _ x s.set (get_set_eq (by rw [s.len]; omega)) ?_, s.set, ?_⟩
      · have h1 := List.length_filter_le p d
        have h2 := congrArg List.length e
        simp only [List.length_append, List.length_cons] at h2 ⊢
        omega
      · rw [List.filter_append]
        cases hp : p x
        · simp [hp]
        · simp [hp]) ρ (U ++ [.lst (xs0.map kD)]) ⟨s, by simp⟩
  rcases key with ⟨ρ', V, e, s', ev⟩ | ⟨_, _, _, q⟩
  · subst ev
    exact ⟨ρ', e, s'⟩
  · exact q.elim
variable {Γ : Tab}
theorem r_steps (hΓ : Γ "Web.steps" = some W_Web_steps) (d : Nat) (w : WAt U n goal ks L B us a b c la lb) {h : Kn} (hk : h ∈ ks) (hz : (L h).length + (B h).length < SZ) :
    frz true U (run Γ (d + 1) "Web.steps" [.ref n, kD h] U) = some (.ok (.lst ((stepsL L B us h).map kD)) U) := by
  have s0 : SR [some (.ref n), some (kD h), some (.ref U.length), none] n U.length h := ⟨rfl, rfl, rfl, rfl⟩
  obtain ⟨ρ1, e1, s1⟩ := steps_loop (C := run Γ d) (xs0 := []) (w.lla h hk) (by simp only [List.length_nil]; omega) (fun ρ xs t => steps_on w) s0
  obtain ⟨ρ2, e2, s2⟩ := steps_loop (C := run Γ d) (xs0 := (L h).filter (goOn us h)) (w.llb h hk) (by have := List.length_filter_le (goOn us h) (L h); omega) (fun ρ xs t => steps_back w) s1
  rw [List.map_nil, List.nil_append] at e1
  have w0 := w.app (V := [.lst []])
  have w1 := w.app (V := [.lst (((L h).filter (goOn us h)).map kD)])
  have e : run Γ (d + 1) "Web.steps" [.ref n, kD h] U = some (.ok (.ref U.length) (U ++ [.lst ((stepsL L B us h).map kD)])) := by
    rw [run_at hΓ rfl]
    simp only [W_Web_steps, startR, List.map_cons, List.map_nil, List.replicate, List.cons_append, List.nil_append, Nat.reduceSub]
    simp only [execs, exec, ev, evs, evIt, asgT, mkL, if_true, bnd_ok, bndS_ok, thn_nx, List.getElem?_cons_zero, List.getElem?_cons_succ, List.set_cons_zero, List.set_cons_succ, w0.fleads, w0.ileads hk, srcOf, get_app (w.lla h hk), e1, s1.h0, s1.h1, w1.fbacks, w1.ibacks hk, get_app (w.llb h hk), e2, s2.h2, thn_rt, fin_rt]
    rfl
  rw [e]
  exact frz_ref (Nat.le_refl _) get_end (closedL_kD _)
end
/-! ### reach -/
def pr (p : Kn × Kn) : D × D := (kD p.1, kD p.2)
theorem look_pr (t : Kn) : ∀ ps : List (Kn × Kn), lookD (ps.map pr) (kD t) = (ps.find? fun p => decide (p.1 = t)).map fun p => kD p.2
  | [] => rfl
  | p :: r => by
    simp only [List.map_cons, pr, lookD, List.find?_cons]
    by_cases e : p.1 = t
    · simp [e]
    · have : kD p.1 ≠ kD t := fun q => e (kD_inj q)
      simp only [if_neg this, decide_eq_false e]
      exact look_pr t r
theorem has_pr (t : Kn) (ps : List (Kn × Kn)) : (lookD (ps.map pr) (kD t)).isSome = decide (t ∈ ps.map (·.1)) := by
  rw [look_pr, Option.isSome_map, List.isSome_find?]
  rw [Bool.eq_iff_iff, List.any_eq_true]
  simp [List.mem_map]
theorem put_pr (t h : Kn) : ∀ ps : List (Kn × Kn), t ∉ ps.map (·.1) → putD (ps.map pr) (kD t) (kD h) = (ps ++ [(t, h)]).map pr
  | [], _ => rfl
  | p :: r, hn => by
    have e : ¬ kD p.1 = kD t := fun q => hn (by rw [← kD_inj q]; simp)
    simp only [List.map_cons, pr, putD, if_neg e, List.cons_append]
    rw [← put_pr t h r (fun q => hn (by simp only [List.map_cons]; exact List.mem_cons_of_mem _ q))] <;> rfl
theorem find_pr {ps : List (Kn × Kn)} (nd : (ps.map (·.1)).Nodup) {t h : Kn} (hm : (t, h) ∈ ps) : (ps.find? fun p => decide (p.1 = t)) = some (t, h) := by
  induction ps with
  | nil => cases hm
  | cons p r ih =>
    rw [List.map_cons, List.nodup_cons] at nd
    rw [List.find?_cons]
    rcases List.mem_cons.mp hm with e | hm
    · subst e
      simp
    · have : ¬ p.1 = t := fun e => nd.1 (by rw [e]; exact List.mem_map.mpr ⟨_, hm, rfl⟩)
      simp only [decide_eq_false this]
      exact ih nd.2 hm
def addStep (h : Kn) (ps : List (Kn × Kn)) (t : Kn) : List (Kn × Kn) := if t ∈ ps.map (·.1) then ps else ps ++ [(t, h)]
theorem get_pen {U : Store} {o p : MO} : (U ++ [o, p])[U.length]? = some o := by simp
theorem get_ult {U : Store} {o p : MO} : (U ++ [o, p])[U.length + 1]? = some p := by simp
theorem set_pen {U : Store} {o o' p : MO} : updS (U ++ [o, p]) U.length o' = U ++ [o', p] := by simp [updS]
theorem set_ult {U : Store} {o p p' : MO} : updS (U ++ [o, p]) (U.length + 1) p' = U ++ [o, p'] := by simp [updS]
structure RR (ρ : Rho) (n r i : Nat) : Prop where
  len : ρ.length = 5
  h0 : ρ[0]? = some (some (.ref n))
  h1 : ρ[1]? = some (some (.ref r))
  h2 : ρ[2]? = some (some (.ref (r + 1)))
  h3 : ρ[3]? = some (some (.int i))
theorem RR.set {ρ : Rho} {n r i : Nat} {o : Option D} (s : RR ρ n r i) : RR (ρ.set 4 o) n r i :=
  ⟨by rw [List.length_set]; exact s.len, by rw [get_set_ne (by omega)]; exact s.h0, by rw [get_set_ne (by omega)]; exact s.h1, by rw [get_set_ne (by omega)]; exact s.h2, by rw [get_set_ne (by omega)]; exact s.h3⟩
theorem add_pre {h t : Kn} {ps : List (Kn × Kn)} : ps <+: addStep h ps t := by
  unfold addStep
  split
  · exact List.prefix_rfl
  · exact List.prefix_append _ _
theorem adds_pre {h : Kn} : ∀ (ts : List Kn) (ps : List (Kn × Kn)), ps <+: ts.foldl (addStep h) ps
  | [], ps => List.prefix_rfl
  | t :: r, ps => add_pre.trans (adds_pre r _)
theorem pre_at {α : Type} {l m : List α} {i : Nat} {y : α} (h : l <+: m) (e : l[i]? = some y) : m[i]? = some y := by
  obtain ⟨t, rfl⟩ := h
  rw [List.getElem?_append_left (List.getElem?_eq_some_iff.mp e).1, e]
section
variable {U : Store} {n : Nat} {goal : Tx} {ks : List Kn} {L B : Kn → List Kn} {us : List (Kn × Kn)} {a b c : Nat} {la lb : Kn → Nat} {C : Cal}
abbrev rSt (U : Store) (ps : List (Kn × Kn)) : Store := U ++ [.dct 1 (ps.map pr), .lst ((ps.map (·.1)).map kD)]
theorem reach_m {ps : List (Kn × Kn)} (t : Kn) : member (rSt U ps) (kD t) (.ref U.length) = some (decide (t ∈ ps.map (·.1))) := by
  have h : (rSt U ps)[U.length]? = some (.dct 1 (ps.map pr)) := get_pen
  have : member (rSt U ps) (kD t) (.ref U.length) = hasD (rSt U ps) (kD t) (.ref U.length) := by
    cases t <;> exact member_tup h
  rw [this]
  unfold hasD
  simp only [asD, h, key_kD, if_true, has_pr]
theorem reach_in {ρ : Rho} {i : Nat} {h t : Kn} {ps : List (Kn × Kn)} (s : RR ρ n U.length i) (h4 : ρ[4]? = some (some (kD t))) (hi : (ps.map (·.1))[i]? = some h) (hz : ps.length < SZ) :
    execs C W_Web_reach_2 ρ (rSt U ps) = some (.nx ρ (rSt U (addStep h ps t))) := by
  by_cases q : t ∈ ps.map (·.1)
  · have : addStep h ps t = ps := by unfold addStep; rw [if_pos q]
    simp only [W_Web_reach_2, execs, exec, evB, ev, evs, s.h1, h4, bnd_ok, cmp_notIn, reach_m, q, decide_true, Option.map_some, Bool.not_true, tru_bl, bndS_ok, Bool.false_eq_true, if_false, thn_nx, this]
  · have e : addStep h ps t = ps ++ [(t, h)] := by unfold addStep; rw [if_neg q]
    have il : i < ps.length := by simpa using (List.getElem?_eq_some_iff.mp hi).1
    have hat : atI ((ps.map (·.1)).map kD) (i : Int) = some (kD h) := by
      unfold atI ixN
      rw [if_pos (by omega), if_pos (by simp; omega)]
      simp only [Option.bind_some, Int.toNat_natCast, List.getElem?_map]
      rw [List.getElem?_map] at hi
      rw [hi]
      rfl
    have hidx : index1 (.ref (U.length + 1)) (.int i) (rSt U ps) = some (.ok (kD h) (rSt U ps)) := by
      have h2 : asQ (rSt U ps) (.ref (U.length + 1)) = some ((ps.map (·.1)).map kD) := by simp [asQ, asL, rSt]
      unfold index1
      simp only [h2, hat]
    have hset : setIx (.ref U.length) (kD t) (kD h) (rSt U ps) = some (.ok () (U ++ [.dct 1 ((ps ++ [(t, h)]).map pr), .lst ((ps.map (·.1)).map kD)])) := by
      have h2 : (rSt U ps)[U.length]? = some (.dct 1 (ps.map pr)) := get_pen
      have h3 : (ps.map pr).length < SZ := by simpa using hz
      simp only [setIx, h2, key_kD, h3, and_self, if_true, put_pr t h ps q, rSt, set_pen]
    have happ : prim .append false [.ref (U.length + 1), kD t] (U ++ [.dct 1 ((ps ++ [(t, h)]).map pr), .lst ((ps.map (·.1)).map kD)]) = some (.ok .non (rSt U (ps ++ [(t, h)]))) := by
      have h3 : ((ps.map (·.1)).map kD).length < SZ := by simpa using hz
      simp only [prim, get_ult, h3, if_true, set_ult, rSt]
      simp
    have hr : recvOk .append (U ++ [.dct 1 ((ps ++ [(t, h)]).map pr), .lst ((ps.map (·.1)).map kD)]) (.ref (U.length + 1)) = true := by
      simp only [recvOk, asL, get_ult, Option.isSome_some]
    simp only [W_Web_reach_2, execs, exec, evB, ev, evs, s.h1, s.h2, s.h3, h4, bnd_ok, cmp_notIn, reach_m, q, decide_false, Option.map_some, Bool.not_false, tru_bl, bndS_ok, if_true, hidx, hset, thn_nx, hr, happ, e]
theorem reach_ins {i : Nat} {h : Kn} : ∀ (ts : List Kn) (ρ : Rho) (ps : List (Kn × Kn)), RR ρ n U.length i → (ps.map (·.1))[i]? = some h → ps.length + ts.length < SZ →
    ∃ ρ', forL (turnF (.var 4) (execs C W_Web_reach_2)) (ts.map kD) ρ (rSt U ps) = some (.nx ρ' (rSt U (ts.foldl (addStep h) ps))) ∧ RR ρ' n U.length i
  | [], ρ, ps, s, _, _ => ⟨ρ, rfl, s⟩
  | t :: r, ρ, ps, s, hi, hz => by
    simp only [List.length_cons] at hz
    have e := reach_in (C := C) (U := U) (t := t) s.set (get_set_eq (by rw [s.len]; omega)) hi (by omega)
    have hi2 : ((addStep h ps t).map (·.1))[i]? = some h := by
      rw [List.getElem?_map] at hi ⊢
      obtain ⟨p, hp, rfl⟩ := Option.map_eq_some_iff.mp hi
      rw [pre_at add_pre hp]
      rfl
    have hz2 : (addStep h ps t).length + r.length < SZ := by
      unfold addStep
      split
      · omega
      · simp; omega
    obtain ⟨ρ', e2, s2⟩ := reach_ins r _ (addStep h ps t) s.set hi2 hz2
    refine ⟨ρ', ?_, s2⟩
    rw [List.map_cons, forL]
    show turnEnd (execs C W_Web_reach_2 (ρ.set 4 (some (kD t))) _) _ = _
    rw [e, turnEnd_nx]
    exact e2
/-- what is come to so far; those before i gone on from -/
structure RI (ks : List Kn) (L B : Kn → List Kn) (us : List (Kn × Kn)) (ps : List (Kn × Kn)) (i : Nat) : Prop where
  nd : (ps.map (·.1)).Nodup
  hd : ps[0]? = some (.src, .src)
  par : ∀ (j : Nat) t h, ps[j + 1]? = some (t, h) → (∃ (j' : Nat) (h' : Kn), j' ≤ j ∧ ps[j']? = some (h, h')) ∧ t ∈ stepsL L B us h
  sub : ∀ p ∈ ps, p.1 ∈ ks
  le : i ≤ ps.length
  done : ∀ j, j < i → ∀ h h', ps[j]? = some (h, h') → ∀ t ∈ stepsL L B us h, t ∈ ps.map (·.1)
theorem RI.add {ps : List (Kn × Kn)} {i : Nat} {h h' t : Kn} (r : RI ks L B us ps i) (hi : ps[i]? = some (h, h')) (ht : t ∈ stepsL L B us h) (hk : t ∈ ks) : RI ks L B us (addStep h ps t) i ∧ t ∈ (addStep h ps t).map (·.1) := by
  unfold addStep
  split
  · rename_i q
    exact ⟨r, q⟩
  · rename_i q
    have il : i < ps.length := (List.getElem?_eq_some_iff.mp hi).1
    refine ⟨⟨?_, ?_, fun j t' h2 e => ?_, fun p hp => ?_, by simp; omega, fun j hj g g' e t' ht' => ?_⟩, by simp⟩
    · rw [List.map_append, List.nodup_append]
      refine ⟨r.nd, by simp, fun x hx y hy => ?_⟩
      simp only [List.map_cons, List.map_nil, List.mem_singleton] at hy
      subst hy
      exact fun e => q (e ▸ hx)
    · rw [List.getElem?_append_left (by omega)]
      exact r.hd
    · by_cases hj : j + 1 < ps.length
      · rw [List.getElem?_append_left hj] at e
        obtain ⟨⟨j', g', l1, l2⟩, l3⟩ := r.par j t' h2 e
        exact ⟨⟨j', g', l1, by rw [List.getElem?_append_left (by omega)]; exact l2⟩, l3⟩
      · have h1 := (List.getElem?_eq_some_iff.mp e).1
        simp at h1
        have : j + 1 = ps.length := by omega
        rw [this, List.getElem?_append_right (Nat.le_refl _)] at e
        simp at e
        obtain ⟨rfl, rfl⟩ := e
        exact ⟨⟨i, h', by omega, by rw [List.getElem?_append_left il]; exact hi⟩, ht⟩
    · rcases List.mem_append.mp hp with hp | hp
      · exact r.sub p hp
      · simp only [List.mem_singleton] at hp
        subst hp
        exact hk
    · have h1 : j < ps.length := by have := r.le; omega
      rw [List.getElem?_append_left h1] at e
      rw [List.map_append]
      exact List.mem_append_left _ (r.done j hj g g' e t' ht')
theorem RI.adds {i : Nat} {h h' : Kn} : ∀ (ts : List Kn) (ps : List (Kn × Kn)), RI ks L B us ps i → ps[i]? = some (h, h') → (∀ t ∈ ts, t ∈ stepsL L B us h ∧ t ∈ ks) → RI ks L B us (ts.foldl (addStep h) ps) i ∧ ∀ t ∈ ts, t ∈ (ts.foldl (addStep h) ps).map (·.1)
  | [], ps, r, _, _ => ⟨r, fun t ht => by cases ht⟩
  | t :: l, ps, r, hi, ht => by
    obtain ⟨r1, m1⟩ := r.add hi (ht t (by simp)).1 (ht t (by simp)).2
    obtain ⟨r2, m2⟩ := RI.adds l (addStep h ps t) r1 (pre_at add_pre hi) fun x hx => ht x (by simp [hx])
    refine ⟨r2, fun x hx => ?_⟩
    rcases List.mem_cons.mp hx with rfl | hx
    · exact ((adds_pre l _).map _).subset m1
    · exact m2 x hx
theorem RI.next {ps : List (Kn × Kn)} {i : Nat} {h h' : Kn} (r : RI ks L B us ps i) (hi : ps[i]? = some (h, h')) (hk : ∀ t ∈ stepsL L B us h, t ∈ ks) : RI ks L B us ((stepsL L B us h).foldl (addStep h) ps) (i + 1) := by
  obtain ⟨r1, m1⟩ := RI.adds (stepsL L B us h) ps r hi fun t ht => ⟨ht, hk t ht⟩
  have hp := adds_pre (h := h) (stepsL L B us h) ps
  have il : i < ps.length := (List.getElem?_eq_some_iff.mp hi).1
  refine ⟨r1.nd, r1.hd, r1.par, r1.sub, by have := hp.length_le; omega, fun j hj g g' e t ht => ?_⟩
  by_cases q : j < i
  · exact r1.done j q g g' e t ht
  · have : j = i := by omega
    subst this
    rw [pre_at hp hi] at e
    cases e
    exact m1 t ht
theorem RI.len {ps : List (Kn × Kn)} {i : Nat} (r : RI ks L B us ps i) : ps.length ≤ ks.length := by
  have := nodup_le r.nd fun x hx => by
    obtain ⟨p, hp, rfl⟩ := List.mem_map.mp hx
    exact r.sub p hp
  simpa using this
theorem closedP_pr (ps : List (Kn × Kn)) : closedP (ps.map pr) = true := by
  induction ps with
  | nil => rfl
  | cons p r ih => simp [closedP, pr, closed_kD]; exact ih
theorem frz_refD {J : Store} {t : Nat} {kvs : List (D × D)} {m : Nat} (h : U.length ≤ m) (hV : (U ++ J)[m]? = some (.dct t kvs)) (hc : closedP kvs = true) : frz true U (some (.ok (.ref m) (U ++ J))) = some (.ok (.dct t kvs) U) := by
  have hn : ¬ m < U.length := by omega
  have : rs (U ++ J) U.length (.ref m) = some (.dct t kvs) := by
    show rsv (U ++ J) U.length (subAt (U ++ J) U.length 8) (.ref m) = _
    simp only [rsv, subAt, hn, if_false, hV, rsvP_closed kvs hc, Option.map_some]
  unfold frz
  simp only [if_true, List.take_left, this]
variable {Γ : Tab}
theorem r_reach (hs : Γ "Web.steps" = some W_Web_steps) (hr : Γ "Web.reach" = some W_Web_reach) (d : Nat) (w : WAt U n goal ks L B us a b c la lb) (h0 : Kn.src ∈ ks) (hz : ∀ k ∈ ks, (L k).length + (B k).length < 1000) (hk : ks.length < 1000) (hst : ∀ h ∈ ks, ∀ t ∈ stepsL L B us h, t ∈ ks) :
    ∃ ps i, RI ks L B us ps i ∧ (i = ps.length ∨ Kn.inn goal ∈ ps.map (·.1)) ∧ frz true U (run Γ (d + 2) "Web.reach" [.ref n] U) = some (.ok (.dct 1 (ps.map pr)) U) := by
  have z1 : (3000 : Nat) < SZ := by decide
  have loop : ∃ r, whileGo (evB (run Γ (d + 1)) W_Web_reach_1) (execs (run Γ (d + 1)) W_Web_reach_3) WN [some (.ref n), some (.ref U.length), some (.ref (U.length + 1)), some (.int 0), none] (rSt U [(.src, .src)]) = some r ∧
      ∃ ps i ρ, r = .nx ρ (rSt U ps) ∧ RR ρ n U.length i ∧ RI ks L B us ps i ∧ (i = ps.length ∨ Kn.inn goal ∈ ps.map (·.1)) := by
    refine while_ends (fun m ρ V => ∃ ps i, RR ρ n U.length i ∧ V = rSt U ps ∧ RI ks L B us ps i ∧ m = ks.length - i) _ ?_ WN (ks.length - 0) _ _ (Nat.lt_of_le_of_lt (Nat.sub_le _ _) (Nat.lt_trans hk (by decide))) ⟨[(.src, .src)], 0, ⟨rfl, rfl, rfl, rfl, rfl⟩, rfl, ⟨by simp, rfl, fun j t h e => by simp at e, fun p hp => by
      simp only [List.mem_singleton] at hp
      subst hp
      exact h0, by simp, fun j hj => absurd hj (by omega)⟩, rfl⟩
    rintro m ρ V ⟨ps, i, s, rfl, ri, rfl⟩
    have hlen : lenOf (.ref (U.length + 1)) (rSt U ps) = some (.ok (.int ps.length) (rSt U ps)) := by simp [lenOf, asQ, asL, rSt]
    have w' : WAt (rSt U ps) n goal ks L B us a b c la lb := w.app
    have test : evB (run Γ (d + 1)) W_Web_reach_1 ρ (rSt U ps) = some (.ok (decide (i < ps.length) && !decide (Kn.inn goal ∈ ps.map (·.1))) (rSt U ps)) := by
      by_cases q : i < ps.length
      · have q' : decide ((i : Int) < (ps.length : Int)) = true := by simpa using q
        simp only [W_Web_reach_1, evB, ev, evs, s.h3, s.h2, s.h0, s.h1, bnd_ok, recvOk, if_true, prim, hlen, cmp_lt_int, q', tru_bl, w'.fgoal, cmp_notIn, reach_m, Option.map_some, q, decide_true, Bool.true_and]
      · have q' : decide ((i : Int) < (ps.length : Int)) = false := by simpa using q
        simp only [W_Web_reach_1, evB, ev, evs, s.h3, s.h2, bnd_ok, recvOk, if_true, prim, hlen, cmp_lt_int, q', tru_bl, q, decide_false, Bool.false_and, Bool.false_eq_true, if_false]
    rw [test]
    by_cases q : i < ps.length
    · by_cases g : Kn.inn goal ∈ ps.map (·.1)
      · exact .inl ⟨by simp [q, g], ps, i, ρ, rfl, s, ri, .inr g⟩
      · refine .inr ⟨by simp only [q, g, decide_true, decide_false, Bool.not_false, Bool.and_self], .inl ?_⟩
        obtain ⟨⟨h, h'⟩, hi⟩ : ∃ p, ps[i]? = some p := ⟨ps[i], List.getElem?_eq_getElem q⟩
        have hhk : h ∈ ks := ri.sub _ (List.mem_of_getElem? hi)
        have hi1 : (ps.map (·.1))[i]? = some h := by rw [List.getElem?_map, hi]; rfl
        have hl := ri.len
        have hsl : (stepsL L B us h).length < 1000 := by
          have := hz h hhk
          have h1 := List.length_filter_le (goOn us h) (L h)
          have h2 := List.length_filter_le (goBack us h) (B h)
          unfold stepsL
          rw [List.length_append]
          omega
        obtain ⟨ρ', e1, s1⟩ := reach_ins (C := run Γ (d + 1)) (U := U) (stepsL L B us h) ρ ps s hi1 (by omega)
        have hat : atI ((ps.map (·.1)).map kD) (i : Int) = some (kD h) := by
          unfold atI ixN
          rw [if_pos (by omega), if_pos (by simp; omega)]
          simp only [Option.bind_some, Int.toNat_natCast, List.getElem?_map, hi]
          rfl
        have hidx : index1 (.ref (U.length + 1)) (.int i) (rSt U ps) = some (.ok (kD h) (rSt U ps)) := by
          have h2 : asQ (rSt U ps) (.ref (U.length + 1)) = some ((ps.map (·.1)).map kD) := by simp [asQ, asL, rSt]
          unfold index1
          simp only [h2, hat]
        have hobj : (rSt U ps)[n]? = some (.ins "Web" [("goal", kD (.inn goal)), ("leads", .ref a), ("backs", .ref b), ("used", .ref c)]) := w'.obj
        have est := r_steps hs d w' hhk (by have := hz h hhk; omega)
        refine ⟨ks.length - (i + 1), ρ'.set 3 (some (.int ((i : Int) + 1))), rSt U ((stepsL L B us h).foldl (addStep h) ps), by omega, ?_, (stepsL L B us h).foldl (addStep h) ps, i + 1, ⟨by rw [List.length_set]; exact s1.len, by rw [get_set_ne (by omega)]; exact s1.h0, by rw [get_set_ne (by omega)]; exact s1.h1, by rw [get_set_ne (by omega)]; exact s1.h2, by rw [get_set_eq (by rw [s1.len]; omega)]; rfl⟩, rfl, ri.next hi (hst h hhk), rfl⟩
        have em : ev (run Γ (d + 1)) (.meth true "Web" "steps" (.var 0) (.cons (.idx (.var 2) (.var 3)) .nil)) ρ (rSt U ps) = some (.ok (.lst ((stepsL L B us h).map kD)) (rSt U ps)) := by
          simp only [ev, evs, s.h0, s.h2, s.h3, bnd_ok, hobj, if_true, hidx]
          exact est
        simp only [W_Web_reach_3, execs, exec, evIt, em, bnd_ok, srcOf, bndS_ok, forGo_fix, e1, thn_nx, s1.h3, ev]
    · refine .inl ⟨by simp [q], ps, i, ρ, rfl, s, ri, .inl ?_⟩
      have := ri.le
      omega
  obtain ⟨r, e1, ps, i, ρ, rfl, s, ri, q⟩ := loop
  refine ⟨ps, i, ri, q, ?_⟩
  have e : run Γ (d + 2) "Web.reach" [.ref n] U = some (.ok (.ref U.length) (rSt U ps)) := by
    have u0 : U ++ [MO.dct 1 [(kD .src, kD .src)]] ++ [MO.lst [kD .src]] = rSt U [(.src, .src)] := by simp [rSt, pr]
    have l0 : (U ++ [MO.dct 1 [(kD .src, kD .src)]]).length = U.length + 1 := by simp
    rw [run_at hr rfl]
    simp only [W_Web_reach, startR, List.map_cons, List.map_nil, List.replicate, List.cons_append, List.nil_append, Nat.reduceSub]
    simp only [execs, exec, ev, ev_gS, evs, asgT, key_kD, mkD, mkL, if_true, bnd_ok, bndS_ok, thn_nx, List.set_cons_zero, List.set_cons_succ, l0, u0, e1, s.h1, thn_rt, fin_rt]
  rw [e]
  exact frz_refD (Nat.le_refl _) get_pen (closedP_pr ps)
end
/-! ### turn: one chain more -/
def step1 (us : List (Kn × Kn)) (t h : Kn) : List (Kn × Kn) := if (t, h) ∈ us then us.erase (t, h) else if (h, t) ∈ us then us else us ++ [(h, t)]
def augL (us : List (Kn × Kn)) : List Kn → List (Kn × Kn)
  | t :: h :: r => augL (step1 us t h) (h :: r)
  | _ => us
theorem step1_nd {us : List (Kn × Kn)} {t h : Kn} (nd : us.Nodup) : (step1 us t h).Nodup := by
  unfold step1
  split
  · exact nd.erase _
  · split
    · exact nd
    · rename_i q
      rw [List.nodup_append]
      exact ⟨nd, by simp, fun x hx y hy e => by
        simp only [List.mem_singleton] at hy
        subst hy
        exact q (e ▸ hx)⟩
theorem step1_mem {us : List (Kn × Kn)} {t h : Kn} (nd : us.Nodup) (ne : t ≠ h) (p : Kn × Kn) : p ∈ step1 us t h ↔ (p ∈ us ∧ p ≠ (t, h)) ∨ (p = (h, t) ∧ (t, h) ∉ us) := by
  unfold step1
  split
  · rename_i q
    rw [nd.mem_erase_iff]
    constructor
    · rintro ⟨h1, h2⟩
      exact .inl ⟨h2, h1⟩
    · rintro (⟨h1, h2⟩ | ⟨_, h2⟩)
      · exact ⟨h2, h1⟩
      · exact absurd q h2
  · rename_i q
    have ht : ∀ {p}, p ∈ us → p ≠ (t, h) := fun {p} hp e => q (e ▸ hp)
    split
    · rename_i q2
      constructor
      · intro hp
        exact .inl ⟨hp, ht hp⟩
      · rintro (⟨h1, _⟩ | ⟨rfl, _⟩)
        · exact h1
        · exact q2
    · rw [List.mem_append, List.mem_singleton]
      constructor
      · rintro (hp | rfl)
        · exact .inl ⟨hp, ht hp⟩
        · exact .inr ⟨rfl, q⟩
      · rintro (⟨h1, _⟩ | ⟨rfl, _⟩)
        · exact .inl h1
        · exact .inr rfl
theorem St_cons {t h u v : Kn} {r : List Kn} : St (t :: h :: r) u v ↔ (u = h ∧ v = t) ∨ St (h :: r) u v := by
  constructor
  · rintro ⟨i, h1, h2⟩
    cases i with
    | zero =>
      simp at h1 h2
      exact .inl ⟨h2.symm, h1.symm⟩
    | succ i => exact .inr ⟨i, by simpa using h1, by simpa using h2⟩
  · rintro (⟨rfl, rfl⟩ | ⟨i, h1, h2⟩)
    · exact ⟨0, rfl, rfl⟩
    · exact ⟨i + 1, by simpa using h1, by simpa using h2⟩
theorem St.mem {P : List Kn} {u v : Kn} (s : St P u v) : u ∈ P ∧ v ∈ P := by
  obtain ⟨i, h1, h2⟩ := s
  exact ⟨List.mem_of_getElem? h2, List.mem_of_getElem? h1⟩
theorem augL_ok : ∀ (Q : List Kn) (us : List (Kn × Kn)), us.Nodup → Q.Nodup → (augL us Q).Nodup ∧ (augL us Q).length ≤ us.length + Q.length ∧ ∀ u v, (u, v) ∈ augL us Q ↔ ((u, v) ∈ us ∧ ¬ St Q v u) ∨ (St Q u v ∧ (v, u) ∉ us)
  | [], us, nd, _ => ⟨nd, Nat.le_add_right _ _, fun u v => by
      have : ∀ a b, ¬ St [] a b := fun a b s => by have := s.mem.1; cases this
      simp [augL, this]⟩
  | [t], us, nd, _ => ⟨nd, Nat.le_add_right _ _, fun u v => by
      have : ∀ a b, ¬ St [t] a b := fun a b ⟨i, h1, h2⟩ => by simp at h2
      simp [augL, this]⟩
  | t :: h :: r, us, nd, ndQ => by
    rw [List.nodup_cons] at ndQ
    have ne : t ≠ h := fun e => ndQ.1 (by rw [e]; simp)
    obtain ⟨h1, h2, h3⟩ := augL_ok (h :: r) (step1 us t h) (step1_nd nd) ndQ.2
    refine ⟨h1, ?_, fun u v => ?_⟩
    · have : (step1 us t h).length ≤ us.length + 1 := by
        unfold step1
        split
        · have := List.length_erase_le (a := (t, h)) (l := us)
          omega
        · split
          · omega
          · simp
      simp only [augL, List.length_cons] at h2 ⊢
      omega
    · have nt : ∀ a, ¬ St (h :: r) a t ∧ ¬ St (h :: r) t a := fun a => ⟨fun s => ndQ.1 s.mem.2, fun s => ndQ.1 s.mem.1⟩
      simp only [augL, h3, step1_mem nd ne, St_cons]
      by_cases c1 : u = t
      · subst c1
        have e1 : ∀ x, St (h :: r) u x ↔ False := fun x => ⟨(nt x).2, False.elim⟩
        have e2 : ∀ x, St (h :: r) x u ↔ False := fun x => ⟨(nt x).1, False.elim⟩
        simp only [e1, e2, Prod.mk.injEq, true_and, and_true, or_false, not_false_eq_true, false_and, and_false]
        have hu : ¬ u = h := ne
        simp only [hu, false_and, or_false]
        constructor
        · rintro ⟨a1, a2⟩
          exact ⟨a1, fun e => a2 (by rw [e])⟩
        · rintro ⟨a1, a2⟩
          exact ⟨a1, fun e => a2 (by cases e; rfl)⟩
      · by_cases c2 : v = t
        · subst c2
          have e1 : ∀ x, St (h :: r) v x ↔ False := fun x => ⟨(nt x).2, False.elim⟩
          have e2 : ∀ x, St (h :: r) x v ↔ False := fun x => ⟨(nt x).1, False.elim⟩
          simp only [e1, e2, Prod.mk.injEq, and_true, or_false, not_false_eq_true, false_and]
          have hv : ¬ v = h := ne
          have hu' : ¬ (u = v ∧ v = h) := fun q => hv q.2
          simp only [c1, hv, false_and, not_false_eq_true, and_true, ne_eq]
          by_cases c3 : u = h
          · subst c3
            simp [c1]
          · simp [c3, c1]
        · simp only [Prod.mk.injEq, c1, c2, false_and, and_false, not_false_eq_true, and_true, or_false, false_or, ne_eq]
section
variable {U : Store} {n : Nat} {goal : Tx} {ks : List Kn} {L B : Kn → List Kn} {us : List (Kn × Kn)} {a b c : Nat} {la lb : Kn → Nat} {C : Cal}
theorem WAt.upd_used {us' : List (Kn × Kn)} (w : WAt U n goal ks L B us a b c la lb) : WAt (updS U c (.dct 1 (us'.map fun p => (pD p, .bl true)))) n goal ks L B us' a b c la lb := by
  have hc : c < U.length := (List.getElem?_eq_some_iff.mp w.du).1
  have nd := w.nd
  simp only [List.nodup_cons, List.mem_cons, List.mem_append, not_or, List.mem_map] at nd
  obtain ⟨⟨n1, n2, n3, n4⟩, ⟨a1, a2, a3⟩, ⟨b1, b2⟩, c1, _⟩ := nd
  have g : ∀ {i : Nat} {o : MO}, i ≠ c → U[i]? = some o → (updS U c (.dct 1 (us'.map fun p => (pD p, .bl true))))[i]? = some o := fun {i o} hi h => by
    unfold updS
    rw [List.getElem?_set_ne (Ne.symm hi)]
    exact h
  refine ⟨g n3 w.obj, g a2 w.dl, g b1 w.db, by unfold updS; rw [List.getElem?_set_self hc], fun k hk => g (fun e => c1.1 ⟨k, hk, e⟩) (w.lla k hk), fun k hk => g (fun e => c1.2 ⟨k, hk, e⟩) (w.llb k hk), w.nd⟩
structure TR (ρ : Rho) (n : Nat) (ps : List (Kn × Kn)) (t : Kn) : Prop where
  len : ρ.length = 4
  h0 : ρ[0]? = some (some (.ref n))
  h1 : ρ[1]? = some (some (.dct 1 (ps.map pr)))
  h2 : ρ[2]? = some (some (kD t))
theorem turn_body (w : WAt U n goal ks L B us a b c la lb) {ρ : Rho} {t h : Kn} {ps : List (Kn × Kn)} (s : TR ρ n ps t) (nd : (ps.map (·.1)).Nodup) (hm : (t, h) ∈ ps) (hz : us.length < SZ) :
    ∃ ρ' U', execs C W_Web_turn_2 ρ U = some (.nx ρ' U') ∧ TR ρ' n ps h ∧ WAt U' n goal ks L B (step1 us t h) a b c la lb ∧ U'.length = U.length ∧ ∀ i, i ≠ c → U'[i]? = U[i]? := by
  have hidx : index1 (.dct 1 (ps.map pr)) (kD t) U = some (.ok (kD h) U) :=
    index_dct (t := 1) (kvs := ps.map pr) rfl rfl (key_kD t) (by rw [look_pr, find_pr nd hm]; rfl) (fun x e => by cases e)
  have e1 : exec C (.asg (.var 3) (.idx (.var 1) (.var 2))) ρ U = some (.nx (ρ.set 3 (some (kD h))) U) := by
    simp only [exec, ev, s.h1, s.h2, bnd_ok, hidx, bndS_ok, asgT]
  have g0 : (ρ.set 3 (some (kD h)))[0]? = some (some (.ref n)) := by rw [get_set_ne (by omega)]; exact s.h0
  have g1 : (ρ.set 3 (some (kD h)))[1]? = some (some (.dct 1 (ps.map pr))) := by rw [get_set_ne (by omega)]; exact s.h1
  have g2 : (ρ.set 3 (some (kD h)))[2]? = some (some (kD t)) := by rw [get_set_ne (by omega)]; exact s.h2
  have g3 : (ρ.set 3 (some (kD h)))[3]? = some (some (kD h)) := get_set_eq (by rw [s.len]; omega)
  have gl : (ρ.set 3 (some (kD h))).length = 4 := by rw [List.length_set]; exact s.len
  generalize ρ.set 3 (some (kD h)) = ρ1 at e1 g0 g1 g2 g3 gl
  have e3 : ∀ V, exec C (.asg (.var 2) (.var 3)) ρ1 V = some (.nx (ρ1.set 2 (some (kD h))) V) := fun V => by
    simp only [exec, ev, g3, bndS_ok, asgT]
  have tr : TR (ρ1.set 2 (some (kD h))) n ps h := ⟨by rw [List.length_set]; exact gl, by rw [get_set_ne (by omega)]; exact g0, by rw [get_set_ne (by omega)]; exact g1, get_set_eq (by omega)⟩
  have gu : ∀ (o : MO) i, i ≠ c → (updS U c o)[i]? = U[i]? := fun o i hi => by
    unfold updS
    rw [List.getElem?_set_ne (Ne.symm hi)]
  have lu : ∀ o : MO, (updS U c o).length = U.length := fun o => by unfold updS; rw [List.length_set]
  have pt : (.tup [kD t, kD h] : D) = pD (t, h) := rfl
  have ph : (.tup [kD h, kD t] : D) = pD (h, t) := rfl
  by_cases q : (t, h) ∈ us
  · have es : step1 us t h = us.erase (t, h) := by unfold step1; rw [if_pos q]
    have hpop : prim .popD false [.ref c, pD (t, h)] U = some (.ok (.bl true) (updS U c (.dct 1 ((us.erase (t, h)).map fun p => (pD p, .bl true))))) := by
      simp only [prim, w.du, key_pD, if_true, lookG pD_inj (fun _ => D.bl true), q, dropG pD_inj]
    have mu : member U (pD (t, h)) (.ref c) = some true := by
      rw [← pt, w.mused, decide_eq_true q]
    have hrec : recvOk .popD U (.ref c) = true := by simp only [recvOk, asD, w.du, Option.isSome_some]
    refine ⟨ρ1.set 2 (some (kD h)), updS U c (.dct 1 ((us.erase (t, h)).map fun p => (pD p, .bl true))), ?_, tr, by rw [es]; exact w.upd_used, lu _, gu _⟩
    have e2 : exec C (.ifS (.cmp .isIn (.tup (.cons (.var 2) (.cons (.var 3) .nil))) (.fld (.var 0) "used")) (.cons (.expr (.prim .popD false (.cons (.fld (.var 0) "used") (.cons (.tup (.cons (.var 2) (.cons (.var 3) .nil))) .nil)))) .nil) (.cons (.asgI (.fld (.var 0) "used") (.tup (.cons (.var 3) (.cons (.var 2) .nil))) (.cst (.bl true))) .nil)) ρ1 U = some (.nx ρ1 (updS U c (.dct 1 ((us.erase (t, h)).map fun p => (pD p, .bl true))))) := by
      simp only [exec, execs, evB, ev, evs, g0, g2, g3, bnd_ok, w.fused, cmp_in, pt, mu, tru_bl, bndS_ok, if_true, hrec, hpop, thn_nx]
    rw [W_Web_turn_2, execs, e1, thn_nx, execs, e2, thn_nx, execs, e3, thn_nx, execs]
  · have hlen : (us.map fun p => (pD p, D.bl true)).length < SZ := by simpa using hz
    have hset : setIx (.ref c) (pD (h, t)) (.bl true) U = some (.ok () (updS U c (.dct 1 ((step1 us t h).map fun p => (pD p, .bl true))))) := by
      simp only [setIx, w.du, key_pD, hlen, and_self, if_true]
      unfold step1
      rw [if_neg q]
      by_cases q2 : (h, t) ∈ us
      · rw [if_pos q2, putS pD_inj _ _ _ q2]
      · rw [if_neg q2, putG pD_inj (fun _ => D.bl true) _ _ _ q2, List.map_append]
        rfl
    refine ⟨ρ1.set 2 (some (kD h)), updS U c (.dct 1 ((step1 us t h).map fun p => (pD p, .bl true))), ?_, tr, w.upd_used, lu _, gu _⟩
    have e2 : exec C (.ifS (.cmp .isIn (.tup (.cons (.var 2) (.cons (.var 3) .nil))) (.fld (.var 0) "used")) (.cons (.expr (.prim .popD false (.cons (.fld (.var 0) "used") (.cons (.tup (.cons (.var 2) (.cons (.var 3) .nil))) .nil)))) .nil) (.cons (.asgI (.fld (.var 0) "used") (.tup (.cons (.var 3) (.cons (.var 2) .nil))) (.cst (.bl true))) .nil)) ρ1 U = some (.nx ρ1 (updS U c (.dct 1 ((step1 us t h).map fun p => (pD p, .bl true))))) := by
      simp only [exec, execs, evB, ev, evs, g0, g2, g3, bnd_ok, w.fused, cmp_in, w.mused, q, decide_false, tru_bl, bndS_ok, Bool.false_eq_true, if_false, ph, hset, thn_nx]
    rw [W_Web_turn_2, execs, e1, thn_nx, execs, e2, thn_nx, execs, e3, thn_nx, execs]
/-- a way back by the parents -/
structure Bw (ps : List (Kn × Kn)) (P : List Kn) : Prop where
  last : ∀ i, P[i]? = some .src ↔ i + 1 = P.length
  nd : P.Nodup
  st : ∀ (i : Nat) t h, P[i]? = some t → P[i + 1]? = some h → (t, h) ∈ ps
theorem Bw.tail {ps : List (Kn × Kn)} {t h : Kn} {r : List Kn} (b : Bw ps (t :: h :: r)) : Bw ps (h :: r) ∧ (t, h) ∈ ps ∧ t ≠ .src := by
  refine ⟨⟨fun i => ?_, (List.nodup_cons.mp b.nd).2, fun i t' h' e1 e2 => b.st (i + 1) t' h' (by simpa using e1) (by simpa using e2)⟩, b.st 0 t h rfl rfl, fun e => ?_⟩
  · have := b.last (i + 1)
    simpa using this
  · subst e
    have := (b.last 0).mp rfl
    simp at this
theorem turn_loop {ps : List (Kn × Kn)} (nd : (ps.map (·.1)).Nodup) (sm : ∀ p ∈ ps, SmallK p.1) : ∀ (P : List Kn) (t : Kn) (r : List Kn), P = t :: r → ∀ (m : Nat) (us : List (Kn × Kn)) (ρ : Rho) (U : Store), Bw ps P → TR ρ n ps t → WAt U n goal ks L B us a b c la lb → us.length + P.length < SZ → P.length ≤ m → us.Nodup →
    ∃ ρ' U', whileGo (evB C W_Web_turn_1) (execs C W_Web_turn_2) m ρ U = some (.nx ρ' U') ∧ WAt U' n goal ks L B (augL us P) a b c la lb ∧ U'.length = U.length ∧ ∀ i, i ≠ c → U'[i]? = U[i]?
  | P, t, [], e, m, us, ρ, U, bw, s, w, hz, hm, ndu => by
    subst e
    have ht : t = .src := by
      have := (bw.last 0).mpr rfl
      simpa using this
    subst ht
    cases m with
    | zero => simp at hm
    | succ m =>
      refine ⟨ρ, U, ?_, w, rfl, fun _ _ => rfl⟩
      have test : evB C W_Web_turn_1 ρ U = some (.ok false U) := by
        simp only [W_Web_turn_1, evB, ev, ev_gS, s.h2, bnd_ok, cmp_ne_kD (U := U) (a := .src) (b := .src) trivial trivial, decide_true, Bool.not_true, tru_bl]
      rw [whileGo, test]
      simp
  | P, t, h :: r, e, m, us, ρ, U, bw, s, w, hz, hm, ndu => by
    subst e
    obtain ⟨b2, hmem, tn⟩ := bw.tail
    cases m with
    | zero => simp at hm
    | succ m =>
      have test : evB C W_Web_turn_1 ρ U = some (.ok true U) := by
        simp only [W_Web_turn_1, evB, ev, ev_gS, s.h2, bnd_ok, cmp_ne_kD (U := U) (a := t) (b := .src) (sm _ hmem) trivial, decide_eq_false tn, Bool.not_false, tru_bl]
      simp only [List.length_cons] at hz hm
      obtain ⟨ρ1, U1, e1, s1, w1, l1, g1⟩ := turn_body (C := C) w s nd hmem (by omega)
      have hl : (step1 us t h).length ≤ us.length + 1 := by
        unfold step1
        split
        · have := List.length_erase_le (a := (t, h)) (l := us)
          omega
        · split
          · omega
          · simp
      obtain ⟨ρ2, U2, e2, w2, l2, g2⟩ := turn_loop nd sm (h :: r) h r rfl m (step1 us t h) ρ1 U1 b2 s1 w1 (by simp only [List.length_cons]; omega) (by simp only [List.length_cons]; omega) (step1_nd ndu)
      refine ⟨ρ2, U2, ?_, w2, l2.trans l1, fun i hi => (g2 i hi).trans (g1 i hi)⟩
      rw [whileGo, test]
      simp only [bndS_ok, if_true, e1, turnEnd_nx]
      exact e2
/-- the way back from what is come to -/
theorem RI.way {ps : List (Kn × Kn)} {i : Nat} (r : RI ks L B us ps i) : ∀ (m j : Nat) (t h : Kn), j ≤ m → ps[j]? = some (t, h) → ∃ q, Bw ps (t :: q) ∧ (∀ (k : Nat) x y, (t :: q)[k]? = some x → (t :: q)[k + 1]? = some y → x ∈ stepsL L B us y) ∧ ∀ x ∈ t :: q, ∃ (j' : Nat) (h' : Kn), j' ≤ j ∧ ps[j']? = some (x, h')
  | m, 0, t, h, _, e => by
    have := r.hd
    rw [e] at this
    cases this
    refine ⟨[], ⟨fun k => ?_, by simp, fun k x y e1 e2 => by simp at e2⟩, fun k x y e1 e2 => by simp at e2, fun x hx => ?_⟩
    · constructor
      · intro hk
        cases k with
        | zero => rfl
        | succ k => simp at hk
      · intro hk
        have : k = 0 := by simpa using hk
        subst this
        rfl
    · simp only [List.mem_singleton] at hx
      subst hx
      exact ⟨0, .src, Nat.le_refl _, e⟩
  | 0, j + 1, t, h, hj, e => by omega
  | m + 1, j + 1, t, h, hj, e => by
    obtain ⟨⟨j', h', l1, e1⟩, hs⟩ := r.par j t h e
    obtain ⟨q, bw, st, al⟩ := RI.way r m j' h h' (by omega) e1
    have tn : t ∉ h :: q := fun ht => by
      obtain ⟨j2, h2, l2, e2⟩ := al t ht
      have a1 : (ps.map (·.1))[j + 1]? = some t := by rw [List.getElem?_map, e]; rfl
      have a2 : (ps.map (·.1))[j2]? = some t := by rw [List.getElem?_map, e2]; rfl
      have := nd_get r.nd a1 a2
      omega
    have ts : t ≠ .src := fun q => by
      have a1 : (ps.map (·.1))[j + 1]? = some .src := by rw [List.getElem?_map, e, q]; rfl
      have a2 : (ps.map (·.1))[0]? = some .src := by rw [List.getElem?_map, r.hd]; rfl
      have := nd_get r.nd a1 a2
      omega
    refine ⟨h :: q, ⟨fun k => ?_, List.nodup_cons.mpr ⟨tn, bw.nd⟩, fun k x y a1 a2 => ?_⟩, fun k x y a1 a2 => ?_, fun x hx => ?_⟩
    · cases k with
      | zero => simp; exact ts
      | succ k =>
        have := bw.last k
        simpa using this
    · cases k with
      | zero =>
        simp at a1 a2
        subst a1 a2
        exact List.mem_of_getElem? e
      | succ k => exact bw.st k x y (by simpa using a1) (by simpa using a2)
    · cases k with
      | zero =>
        simp at a1 a2
        subst a1 a2
        exact hs
      | succ k => exact st k x y (by simpa using a1) (by simpa using a2)
    · rcases List.mem_cons.mp hx with rfl | hx
      · exact ⟨j + 1, h, Nat.le_refl _, e⟩
      · obtain ⟨j2, h2, l2, e2⟩ := al x hx
        exact ⟨j2, h2, by omega, e2⟩
variable {Γ : Tab}
theorem r_turn (hΓ : Γ "Web.turn" = some W_Web_turn) (d : Nat) (w : WAt U n goal ks L B us a b c la lb) {ps : List (Kn × Kn)} {i : Nat} (ri : RI ks L B us ps i) (hg : Kn.inn goal ∈ ps.map (·.1)) (sm : ∀ k ∈ ks, SmallK k) (hz : us.length < 100000) (hk : ks.length < 1000) (ndu : us.Nodup) :
    ∃ P U', Bw ps P ∧ P[0]? = some (.inn goal) ∧ (∀ (k : Nat) x y, P[k]? = some x → P[k + 1]? = some y → x ∈ stepsL L B us y) ∧ P.length ≤ ks.length ∧ run Γ (d + 1) "Web.turn" [.ref n, .dct 1 (ps.map pr)] U = some (.ok .non U') ∧ WAt U' n goal ks L B (augL us P) a b c la lb ∧ U'.length = U.length ∧ ∀ i, i ≠ c → U'[i]? = U[i]? := by
  obtain ⟨p, hp, e⟩ := List.mem_map.mp hg
  obtain ⟨j, hj, ej⟩ := List.mem_iff_getElem.mp hp
  obtain ⟨t, h⟩ := p
  simp only at e
  subst e
  obtain ⟨q, bw, st, al⟩ := ri.way j j (.inn goal) h (Nat.le_refl _) (by rw [List.getElem?_eq_getElem hj, ej])
  have hl : (Kn.inn goal :: q).length ≤ ks.length := nodup_le bw.nd fun x hx => by
    obtain ⟨j', h', _, e'⟩ := al x hx
    exact ri.sub _ (List.mem_of_getElem? e')
  have tr : TR [some (.ref n), some (.dct 1 (ps.map pr)), some (kD (.inn goal)), none] n ps (.inn goal) := ⟨rfl, rfl, rfl, rfl⟩
  have z1 : (200000 : Nat) < SZ := by decide
  have z2 : (1000 : Nat) < WN := by decide
  obtain ⟨ρ', U', e1, w1, l1, g1⟩ := turn_loop (C := run Γ d) ri.nd (fun p hp => sm _ (ri.sub p hp)) (.inn goal :: q) (.inn goal) q rfl WN us _ U bw tr w (by omega) (by omega) ndu
  refine ⟨.inn goal :: q, U', bw, rfl, st, hl, ?_, w1, l1, g1⟩
  rw [run_at hΓ rfl]
  simp only [W_Web_turn, startR, List.map_cons, List.map_nil, List.replicate, List.cons_append, List.nil_append, Nat.reduceSub]
  simp only [execs, exec, ev, asgT, List.getElem?_cons_zero, List.set_cons_zero, List.set_cons_succ, bnd_ok, w.fgoal, bndS_ok, thn_nx, e1, fin_nx]
end
/-! ### behind, chains -/
def chD (c : List Tx) : D := .lst (c.map .str)
def leC (c d : List Tx) : Bool := !ltD (chD d) (chD c)
theorem alikeA_strs : ∀ a b : List Tx, alikeA (a.map .str) (b.map .str) = true
  | [], b => by simp [alikeA]
  | x :: r, [] => by simp [alikeA]
  | x :: r, y :: s => by
    simp only [List.map_cons, alikeA, alike, Bool.true_and]
    exact alikeA_strs r s
theorem alike_chD (a b : List Tx) : alike (chD a) (chD b) = true := by
  simp only [chD, alike]
  exact alikeA_strs a b
theorem plainL_strs {ns : List Tx} {n : Nat} (h : ∀ x ∈ ns, Small x) : plainL (ns.map .str) n = true := by
  induction ns with
  | nil => rfl
  | cons x r ih =>
    simp only [List.map_cons, plainL, Bool.and_eq_true]
    exact ⟨plain_str (h x (by simp)), ih fun y hy => h y (by simp [hy])⟩
theorem plain_chD {c : List Tx} {n : Nat} (h : ∀ x ∈ c, Small x) : plain (chD c) (n + 1) = true := by
  simp only [chD, plain]
  exact plainL_strs h
theorem plainL_chD {cs : List (List Tx)} {n : Nat} (h : ∀ c ∈ cs, ∀ x ∈ c, Small x) : plainL (cs.map chD) (n + 1) = true := by
  induction cs with
  | nil => rfl
  | cons x r ih =>
    simp only [List.map_cons, plainL, Bool.and_eq_true]
    exact ⟨plain_chD (h x (by simp)), ih fun y hy => h y (by simp [hy])⟩
/-- refs of lists in the store, sorted by their trees -/
theorem sort_refs {V : Store} {U : Store} {J : Store} (hV : V = U ++ J) {cs : List (List Tx)} {rs : List Nat} (hl : rs.length = cs.length) (hr : ∀ (i : Nat) r c, rs[i]? = some r → cs[i]? = some c → U.length ≤ r ∧ V[r]? = some (.lst (c.map .str))) (sm : ∀ c ∈ cs, ∀ x ∈ c, Small x) :
    ∃ ys, snapL V (rs.map .ref) = some (cs.map chD) ∧ sortBy (cs.map chD) (rs.map .ref) = some ys ∧ VI.rs V U.length (.lst ys) = some (.lst ((cs.mergeSort leC).map chD)) := by
  have sn : snapL V (rs.map .ref) = some (cs.map chD) := by
    clear sm
    induction rs generalizing cs with
    | nil =>
      cases cs with
      | nil => rfl
      | cons _ _ => cases hl
    | cons r rs ih =>
      cases cs with
      | nil => cases hl
      | cons c cs =>
        have h0 := hr 0 r c rfl rfl
        have e1 : snap V (.ref r) = some (chD c) := rs_ref (Nat.zero_le _) h0.2 (closed_strs c)
        have e2 := ih (cs := cs) (by simpa using hl) fun i r' c' a1 a2 => hr (i + 1) r' c' (by simpa using a1) (by simpa using a2)
        simp only [List.map_cons, snapL, e1, e2]
  have zip : (cs.map chD).zip (rs.map .ref) = (cs.zip rs).map fun p => (chD p.1, D.ref p.2) := by
    rw [List.zip_map]
    rfl
  have ms : ((cs.zip rs).mergeSort fun p q => leC p.1 q.1).map (fun p => (chD p.1, D.ref p.2)) = ((cs.map chD).zip (rs.map .ref)).mergeSort fun p q => !ltD q.1 p.1 := by
    rw [zip]
    exact List.map_mergeSort fun a _ b _ => rfl
  have mf : ((cs.zip rs).mergeSort fun p q => leC p.1 q.1).map (·.1) = cs.mergeSort leC := by
    rw [List.map_mergeSort (s := leC) fun a _ b _ => rfl, List.map_fst_zip (by omega)]
  have can : canSort (cs.map chD) = true := by
    unfold canSort
    simp only [Bool.and_eq_true, Bool.or_eq_true, List.all_eq_true, List.mem_map]
    refine ⟨?_, .inr ?_⟩
    · rintro _ ⟨a, _, rfl⟩ _ ⟨b, _, rfl⟩
      exact alike_chD a b
    · rintro _ ⟨a, _, rfl⟩
      rfl
  refine ⟨((cs.zip rs).mergeSort fun p q => leC p.1 q.1).map fun p => .ref p.2, sn, ?_, ?_⟩
  · unfold sortBy
    rw [if_pos ⟨by simp [hl], can⟩, ← ms, List.map_map]
    rfl
  · have all : ∀ p ∈ (cs.zip rs).mergeSort fun p q => leC p.1 q.1, VI.rs V U.length (.ref p.2) = some (chD p.1) := fun p hp => by
      have hp := (List.mergeSort_perm _ _).mem_iff.mp hp
      obtain ⟨i, hi, e⟩ := List.mem_iff_getElem.mp hp
      have hi' : i < cs.length ∧ i < rs.length := by
        rw [List.length_zip] at hi
        omega
      rw [List.getElem_zip] at e
      subst e
      have := hr i rs[i] cs[i] (List.getElem?_eq_getElem hi'.2) (List.getElem?_eq_getElem hi'.1)
      exact rs_ref this.1 this.2 (closed_strs _)
    rw [← mf]
    generalize (cs.zip rs).mergeSort (fun p q => leC p.1 q.1) = zs at all
    have : ∀ zs : List (List Tx × Nat), (∀ p ∈ zs, VI.rs V U.length (.ref p.2) = some (chD p.1)) → rsvL V U.length (subAt V U.length 8) (zs.map fun p => .ref p.2) = some ((zs.map (·.1)).map chD) := by
      intro zs
      induction zs with
      | nil => intro _; rfl
      | cons p r ih =>
        intro h
        have h1 : rsv V U.length (subAt V U.length 8) (.ref p.2) = some (chD p.1) := h p (by simp)
        simp only [List.map_cons, rsvL, h1, ih fun q hq => h q (by simp [hq])]
    show rsv V U.length (subAt V U.length 8) (.lst _) = _
    simp only [rsv, this zs all, Option.map_some]
section
variable {U : Store} {n : Nat} {goal : Tx} {ks : List Kn} {L B : Kn → List Kn} {us : List (Kn × Kn)} {a b c : Nat} {la lb : Kn → Nat} {C : Cal} {Γ : Tab}
def behindK (L : Kn → List Kn) (us : List (Kn × Kn)) (goal : Tx) (k : Kn) : Kn := ((L k).find? fun t => decide ((k, t) ∈ us)).getD (.inn goal)
theorem r_behind (hΓ : Γ "Web.behind" = some W_Web_behind) (d : Nat) (w : WAt U n goal ks L B us a b c la lb) {k : Kn} (hk : k ∈ ks) : run Γ (d + 1) "Web.behind" [.ref n, kD k] U = some (.ok (kD (behindK L us goal k)) U) := by
  have step : ∀ (t : Kn) (o : Option D), turnF (.var 2) (execs (run Γ d) W_Web_behind_1) (kD t) [some (.ref n), some (kD k), o] U = if (k, t) ∈ us then some (.rt (kD t) U) else some (.nx [some (.ref n), some (kD k), some (kD t)] U) := fun t o => by
    by_cases q : (k, t) ∈ us
    · simp only [turnF, asgT, W_Web_behind_1, execs, exec, evB, ev, evs, List.set_cons_succ, List.set_cons_zero, List.getElem?_cons_zero, List.getElem?_cons_succ, bnd_ok, w.fused, cmp_in, w.mused, q, decide_true, tru_bl, bndS_ok, if_true, thn_rt]
    · simp only [turnF, asgT, W_Web_behind_1, execs, exec, evB, ev, evs, List.set_cons_succ, List.set_cons_zero, List.getElem?_cons_zero, List.getElem?_cons_succ, bnd_ok, w.fused, cmp_in, w.mused, q, decide_false, tru_bl, bndS_ok, Bool.false_eq_true, if_false, thn_nx]
  have key := forLive (turn := turnF (.var 2) (execs (run Γ d) W_Web_behind_1)) (n := la k) kD (L k) (fun dn ρ V => V = U ∧ (∃ o, ρ = [some (.ref n), some (kD k), o]) ∧ ∀ x ∈ dn, (k, x) ∉ us) (fun dn ρ V ⟨e, _⟩ => by rw [e]; exact w.lla k hk) (fun r => r = .rt (kD (behindK L us goal k)) U)
    (fun dn x r ρ V e ⟨ev, ⟨o, eρ⟩, hd⟩ => by
      subst ev eρ
      rw [step]
      by_cases q : (k, x) ∈ us
      · rw [if_pos q]
        refine .inr ⟨_, _, rfl, ?_⟩
        have : (L k).find? (fun t => decide ((k, t) ∈ us)) = some x := by
          rw [e, List.find?_append]
          have hn : dn.find? (fun t => decide ((k, t) ∈ us)) = none := by
            rw [List.find?_eq_none]
            intro y hy
            simpa using hd y hy
          rw [hn]
          simp [q]
        unfold behindK
        rw [this]
        rfl
      · rw [if_neg q]
        refine .inl ⟨_, _, rfl, rfl, ⟨_, rfl⟩, fun y hy => ?_⟩
        rcases List.mem_append.mp hy with hy | hy
        · exact hd y hy
        · simp only [List.mem_singleton] at hy
          subst hy
          exact q) [some (.ref n), some (kD k), none] U ⟨rfl, ⟨_, rfl⟩, fun x hx => by cases hx⟩
  rw [run_at hΓ rfl]
  simp only [W_Web_behind, startR, List.map_cons, List.map_nil, List.replicate, List.cons_append, List.nil_append, Nat.reduceSub]
  rcases key with ⟨ρ', V, e, eV, ⟨o, eρ⟩, hd⟩ | ⟨v, V, e, eE⟩
  · subst eV eρ
    have hb : behindK L us goal k = .inn goal := by
      unfold behindK
      have : (L k).find? (fun t => decide ((k, t) ∈ us)) = none := by
        rw [List.find?_eq_none]
        intro y hy
        simpa using hd y hy
      rw [this]
      rfl
    simp only [execs, exec, ev, evs, evIt, List.getElem?_cons_zero, List.getElem?_cons_succ, bnd_ok, w.fleads, w.ileads hk, srcOf, w.lla k hk, bndS_ok, e, thn_nx, w.fgoal, thn_rt, fin_rt, hb]
  · cases eE
    simp only [execs, exec, ev, evs, evIt, List.getElem?_cons_zero, List.getElem?_cons_succ, bnd_ok, w.fleads, w.ileads hk, srcOf, w.lla k hk, bndS_ok, e, thn_rt, fin_rt]
structure CR (ρ : Rho) (n r q : Nat) (t : Kn) : Prop where
  len : ρ.length = 5
  h0 : ρ[0]? = some (some (.ref n))
  h1 : ρ[1]? = some (some (.ref r))
  h2 : ρ[2]? = some (some (kD t))
  h3 : ρ[3]? = some (some (.ref q))
variable {E : Kn → Kn → Prop} {es : List (Tx × Tx)} {starts names : List Tx}
abbrev Fu (us : List (Kn × Kn)) : Kn → Kn → Prop := fun u v => (u, v) ∈ us
theorem behind_is (f : Flow (fun h t => t ∈ L h) (Fu us) goal) {k t : Kn} (hk : k ≠ .src) (h : (k, t) ∈ us) : behindK L us goal k = t := by
  have hm : t ∈ L k := f.sub _ _ h
  unfold behindK
  cases e : (L k).find? (fun t => decide ((k, t) ∈ us)) with
  | none =>
    rw [List.find?_eq_none] at e
    exact absurd h (by simpa using e t hm)
  | some t' =>
    have := List.find?_some e
    simp only [decide_eq_true_eq] at this
    exact f.outU k _ _ hk this h
theorem chain_loop (hb : Γ "Web.behind" = some W_Web_behind) (d : Nat) {V : Store} (w : WAt V n goal ks L B us a b c la lb) (N : IsNet (fun h t => t ∈ L h) es starts goal) (f : Flow (fun h t => t ∈ L h) (Fu us) goal) (hks : ∀ h t, t ∈ L h → h ∈ ks ∧ t ∈ ks) (sm : ∀ k ∈ ks, SmallK k)
    (hn : ∀ x, Kn.inn x ∈ ks → x ≠ goal → x ∈ names) (hnl : names.length < 1000) {s : Tx} {ρ : Rho} {r : Nat} (hs : Fu us .src (.inn s)) (cr : CR ρ n r V.length (.inn s)) (h4 : ρ[4]? = some (some (kD (.inn s)))) :
    ∃ ρ' l, whileGo (evB (run Γ (d + 1)) W_Web_chains_1) (execs (run Γ (d + 1)) W_Web_chains_2) WN ρ (V ++ [.lst []]) = some (.nx ρ' (V ++ [.lst (l.map .str)])) ∧ Full (Fu us) goal l ∧ l[0]? = some s ∧ CR ρ' n r V.length (.inn s) := by
  have z1 : (2000 : Nat) < SZ := by decide
  have z2 : (2000 : Nat) < WN := by decide
  have sg : s ≠ goal := by
    obtain ⟨x, e, _, h⟩ := (N.ss _).mp (f.sub _ _ hs)
    cases e
    exact h
  have lkn : ∀ {l : List Tx}, Lk (Fu us) goal l → l.length ≤ names.length := fun {l} hl => nodup_le (hl.nodup f) fun x hx => by
    obtain ⟨h, hh⟩ := hl.into hx
    exact hn x (hks _ _ (f.sub _ _ hh)).2 (hl.ng x hx)
  have loop : ∃ rr, whileGo (evB (run Γ (d + 1)) W_Web_chains_1) (execs (run Γ (d + 1)) W_Web_chains_2) WN ρ (V ++ [.lst []]) = some rr ∧ ∃ ρ' l, rr = .nx ρ' (V ++ [.lst (l.map .str)]) ∧ Full (Fu us) goal l ∧ l[0]? = some s ∧ CR ρ' n r V.length (.inn s) := by
    refine while_ends (fun m ρ W => ∃ acc cur, W = V ++ [.lst (acc.map .str)] ∧ CR ρ n r V.length (.inn s) ∧ ρ[4]? = some (some (kD cur)) ∧ ((cur = .inn goal ∧ Full (Fu us) goal acc ∧ acc[0]? = some s) ∨ ∃ y, cur = .inn y ∧ Lk (Fu us) goal (acc ++ [y]) ∧ (acc ++ [y])[0]? = some s) ∧ m = names.length + 1 - acc.length) _ ?_ WN (names.length + 1 - 0) _ _ (by omega)
      ⟨[], .inn s, rfl, cr, h4, .inr ⟨s, rfl, ⟨by simp, fun x hx => by
        simp at hx
        subst hx
        exact hs, fun i a b ha hb => by simp at hb, fun x hx => by
        simp at hx
        subst hx
        exact sg⟩, rfl⟩, rfl⟩
    rintro m ρ W ⟨acc, cur, rfl, cr, h4, hc, rfl⟩
    have w' : WAt (V ++ [.lst (acc.map .str)]) n goal ks L B us a b c la lb := w.app
    have smg : ∀ k, (∃ h, h ∈ ks ∧ k ∈ L h) → SmallK k := fun k ⟨h, _, hk⟩ => sm k (hks h k hk).2
    have gk : SmallK (.inn goal) := by
      -- the goal is a knot, or the loop does not come to it: by a chain from s
      obtain ⟨_, y, hy⟩ := f.next N sg hs
      rcases hc with ⟨_, hf, _⟩ | ⟨y, _, hl, _⟩
      · have hp : 0 < acc.length := List.length_pos_iff.mpr hf.ne
        have := hf.last (acc.length - 1) _ (by omega) (List.getElem?_eq_getElem (by omega))
        exact sm _ (hks _ _ (f.sub _ _ this)).2
      · exact Classical.byContradiction fun q => by
          -- the chain has no end else
          have : ∀ (m : Nat) (l : List Tx), Lk (Fu us) goal l → names.length < l.length + m → False := by
            intro m
            induction m with
            | zero =>
              intro l hl hm
              have := lkn hl
              omega
            | succ m ih =>
              intro l hl hm
              have hp : 0 < l.length := List.length_pos_iff.mpr hl.ne
              have hz : l[l.length - 1]? = some (l[l.length - 1]'(by omega)) := List.getElem?_eq_getElem (by omega)
              obtain ⟨h, hh⟩ := hl.into (List.mem_of_getElem? hz)
              obtain ⟨_, z, hz2⟩ := f.next N (hl.ng _ (List.mem_of_getElem? hz)) hh
              by_cases e : z = goal
              · subst e
                exact q (sm _ (hks _ _ (f.sub _ _ hz2)).2)
              · exact ih (l ++ [z]) (hl.more (by omega) hz hz2 e) (by rw [List.length_append, List.length_singleton]; omega)
          exact this (names.length + 1) _ hl (by omega)
    rcases hc with ⟨rfl, hf, hh⟩ | ⟨y, rfl, hl, hh⟩
    · refine .inl ⟨?_, ρ, acc, rfl, hf, hh, cr⟩
      simp only [W_Web_chains_1, evB, ev, h4, cr.h0, bnd_ok, w'.fgoal, cmp_ne_kD gk gk, decide_true, Bool.not_true, tru_bl]
    · have yg : y ≠ goal := hl.ng y (by simp)
      obtain ⟨h, hin⟩ := hl.into (x := y) (by simp)
      have yk : Kn.inn y ∈ ks := (hks _ _ (f.sub _ _ hin)).2
      obtain ⟨hio, z, hz⟩ := f.next N yg hin
      have ok : Kn.out y ∈ ks := (hks _ _ (f.sub _ _ hio)).2
      have hb1 := behind_is f (k := .out y) (by simp) hz
      refine .inr ⟨?_, .inl ?_⟩
      · have : decide (Kn.inn y = Kn.inn goal) = false := decide_eq_false (inn_ne yg)
        simp only [W_Web_chains_1, evB, ev, h4, cr.h0, bnd_ok, w'.fgoal, cmp_ne_kD (sm _ yk) gk, this, Bool.not_false, tru_bl]
      · have hlen := lkn hl
        simp only [List.length_append, List.length_singleton] at hlen
        have hlt : (acc.map D.str).length < SZ := by rw [List.length_map]; omega
        have happ : prim .append false [.ref V.length, .str y] (V ++ [.lst (acc.map .str)]) = some (.ok .non (V ++ [.lst ((acc ++ [y]).map .str)])) := by
          simp only [prim, get_end, hlt, if_true, upd_end]
          simp
        have w2 : WAt (V ++ [.lst ((acc ++ [y]).map .str)]) n goal ks L B us a b c la lb := w.app
        have hbe := r_behind hb d w2 ok
        rw [hb1] at hbe
        have hto : (.tup [.str [111, 117, 116], .str y] : D) = kD (.out y) := rfl
        have e1 : exec (run Γ (d + 1)) (.expr (.prim .append false (.cons (.var 3) (.cons (.idx (.var 4) (.cst (.int 1))) .nil)))) ρ (V ++ [.lst (acc.map .str)]) = some (.nx ρ (V ++ [.lst ((acc ++ [y]).map .str)])) := by
          simp only [exec, ev, evs, cr.h3, h4, bnd_ok, recvOk, asL, get_end, Option.isSome_some, if_true, idx1, nameK, happ, bndS_ok]
        have hfr : frz true (V ++ [.lst ((acc ++ [y]).map .str)]) (some (.ok (kD (.inn z)) (V ++ [.lst ((acc ++ [y]).map .str)]))) = some (.ok (kD (.inn z)) (V ++ [.lst ((acc ++ [y]).map .str)])) := frz_closed (closed_kD _)
        have e2 : exec (run Γ (d + 1)) (.asg (.var 4) (.meth true "Web" "behind" (.var 0) (.cons (.tup (.cons (.cst (.str [111, 117, 116])) (.cons (.idx (.var 4) (.cst (.int 1))) .nil))) .nil))) ρ (V ++ [.lst ((acc ++ [y]).map .str)]) = some (.nx (ρ.set 4 (some (kD (.inn z)))) (V ++ [.lst ((acc ++ [y]).map .str)])) := by
          have hrun : run Γ (d + 1) ("Web" ++ "." ++ "behind") [.ref n, kD (.out y)] (V ++ [.lst ((acc ++ [y]).map .str)]) = some (.ok (kD (.inn z)) (V ++ [.lst ((acc ++ [y]).map .str)])) := hbe
          simp only [exec, ev, evs, cr.h0, h4, bnd_ok, w2.obj, if_true, idx1, nameK, hto, hrun, hfr, bndS_ok, asgT]
        refine ⟨names.length + 1 - (acc ++ [y]).length, ρ.set 4 (some (kD (.inn z))), _, by simp only [List.length_append, List.length_singleton]; omega, ?_, acc ++ [y], .inn z, rfl, ⟨by rw [List.length_set]; exact cr.len, by rw [get_set_ne (by omega)]; exact cr.h0, by rw [get_set_ne (by omega)]; exact cr.h1, by rw [get_set_ne (by omega)]; exact cr.h2, by rw [get_set_ne (by omega)]; exact cr.h3⟩, get_set_eq (by rw [cr.len]; omega), ?_, rfl⟩
        · rw [W_Web_chains_2, execs, e1, thn_nx, execs, e2, thn_nx, execs]
        · by_cases zg : z = goal
          · subst zg
            refine .inl ⟨rfl, ⟨hl, fun i x hi hx => ?_⟩, hh⟩
            simp only [List.length_append, List.length_singleton] at hi
            have : i = acc.length := by omega
            subst this
            rw [List.getElem?_append_right (Nat.le_refl _)] at hx
            simp at hx
            subst hx
            exact hz
          · refine .inr ⟨z, rfl, hl.more (i := acc.length) (by simp) (by rw [List.getElem?_append_right (Nat.le_refl _)]; simp) hz zg, ?_⟩
            rw [List.getElem?_append_left (by simp)]
            exact hh
  obtain ⟨rr, e1, ρ', l, rfl, h1, h2, h3⟩ := loop
  exact ⟨ρ', l, e1, h1, h2, h3⟩
end
section
variable {U : Store} {n : Nat} {goal : Tx} {ks : List Kn} {L B : Kn → List Kn} {us : List (Kn × Kn)} {a b c : Nat} {la lb : Kn → Nat} {C : Cal} {Γ : Tab} {es : List (Tx × Tx)} {starts names : List Tx}
/-- the chains so far, by the firsts gone through; their lists in the store -/
structure CS (U : Store) (us : List (Kn × Kn)) (goal : Tx) (d : List Kn) (cs : List (List Tx)) (rs : List Nat) (V : Store) : Prop where
  full : ∀ c ∈ cs, Full (Fu us) goal c ∧ ∃ s, Kn.inn s ∈ d ∧ c[0]? = some s
  all : ∀ s, Kn.inn s ∈ d → Fu us .src (.inn s) → ∃ c ∈ cs, c[0]? = some s
  apart : Apart cs
  cnt : cs.length = (d.filter fun t => decide ((Kn.src, t) ∈ us)).length
  len : rs.length = cs.length
  rnd : rs.Nodup
  at_ : ∀ (i : Nat) r c, rs[i]? = some r → cs[i]? = some c → U.length < r ∧ V[r]? = some (.lst (c.map .str))
  st : ∃ J, V = U ++ .lst (rs.map .ref) :: J
/-- the loop of chains -/
theorem chains_core (hbe : Γ "Web.behind" = some W_Web_behind) (d : Nat) (w : WAt U n goal ks L B us a b c la lb) (N : IsNet (fun h t => t ∈ L h) es starts goal) (f : Flow (fun h t => t ∈ L h) (Fu us) goal) (h0 : Kn.src ∈ ks) (hks : ∀ h t, t ∈ L h → h ∈ ks ∧ t ∈ ks) (sm : ∀ k ∈ ks, SmallK k)
    (hn : ∀ x, Kn.inn x ∈ ks → x ≠ goal → x ∈ names) (hnl : names.length < 1000) (nl : (L .src).Nodup) (ll : (L .src).length < 1000) :
    ∃ (ρ : Rho) (V : Store) (cs : List (List Tx)) (rs : List Nat), forGo (liveS (la .src) ((L .src).map kD).length).fin (turnF (.var 2) (execs (run Γ (d + 1)) W_Web_chains_3)) (liveS (la .src) ((L .src).map kD).length).get [some (.ref n), some (.ref U.length), none, none, none] (U ++ [.lst []]) = some (.nx ρ V) ∧
      ρ.length = 5 ∧ ρ[0]? = some (some (.ref n)) ∧ ρ[1]? = some (some (.ref U.length)) ∧ CS U us goal (L .src) cs rs V := by
  have z1 : (2000 : Nat) < SZ := by decide
  have key := forLive (turn := turnF (.var 2) (execs (run Γ (d + 1)) W_Web_chains_3)) (n := la .src) kD (L .src) (fun dn ρ V => ρ.length = 5 ∧ ρ[0]? = some (some (.ref n)) ∧ ρ[1]? = some (some (.ref U.length)) ∧ ∃ cs rs, CS U us goal dn cs rs V ∧ cs.length ≤ dn.length)
    (fun dn ρ V ⟨_, _, _, cs, rs, h, _⟩ => by
      obtain ⟨J, e⟩ := h.st
      rw [e]
      exact get_app (w.lla .src h0)) (fun _ => False)
    (fun dn x r ρ V e ⟨l5, g0, g1, cs, rs, h, hcl⟩ => by
      refine .inl ?_
      obtain ⟨J, eV⟩ := h.st
      have wV : WAt V n goal ks L B us a b c la lb := by rw [eV]; exact w.app
      have xm : x ∈ L .src := by rw [e]; simp
      obtain ⟨s, rfl, hst, sg⟩ := (N.ss x).mp xm
      have dl : dn.length < 1000 := by
        have := congrArg List.length e
        simp only [List.length_append, List.length_cons] at this
        omega
      have xnd : Kn.inn s ∉ dn := fun hx => by
        rw [e, List.nodup_append] at nl
        exact nl.2.2 _ hx _ (by simp) rfl
      -- the slot 2
      have k0 : (ρ.set 2 (some (kD (.inn s))))[0]? = some (some (.ref n)) := by rw [get_set_ne (by omega)]; exact g0
      have k1 : (ρ.set 2 (some (kD (.inn s))))[1]? = some (some (.ref U.length)) := by rw [get_set_ne (by omega)]; exact g1
      have k2 : (ρ.set 2 (some (kD (.inn s))))[2]? = some (some (kD (.inn s))) := get_set_eq (by omega)
      have kl : (ρ.set 2 (some (kD (.inn s)))).length = 5 := by rw [List.length_set]; exact l5
      show ∃ ρ' V', execs (run Γ (d + 1)) W_Web_chains_3 (ρ.set 2 (some (kD (.inn s)))) V = _ ∧ _
      generalize ρ.set 2 (some (kD (.inn s))) = ρ1 at k0 k1 k2 kl
      by_cases q : (Kn.src, Kn.inn s) ∈ us
      · -- a chain from here
        have cr : CR ((ρ1.set 3 (some (.ref V.length))).set 4 (some (kD (.inn s)))) n U.length V.length (.inn s) := ⟨by rw [List.length_set, List.length_set]; exact kl, by rw [get_set_ne (by omega), get_set_ne (by omega)]; exact k0, by rw [get_set_ne (by omega), get_set_ne (by omega)]; exact k1, by rw [get_set_ne (by omega), get_set_ne (by omega)]; exact k2, by rw [get_set_ne (by omega)]; exact get_set_eq (by omega)⟩
        obtain ⟨ρ', l, e1, hf, hh, cr'⟩ := chain_loop hbe d wV N f hks sm hn hnl q cr (get_set_eq (by rw [List.length_set]; omega))
        have rl : rs.length < SZ := by rw [h.len]; omega
        have lU : U.length < V.length := by rw [eV]; simp
        have happ : prim .append false [.ref U.length, .ref V.length] (V ++ [.lst (l.map .str)]) = some (.ok .non (U ++ .lst ((rs ++ [V.length]).map .ref) :: (J ++ [.lst (l.map .str)]))) := by
          have g : (V ++ [MO.lst (l.map .str)])[U.length]? = some (.lst (rs.map .ref)) := by rw [eV]; simp
          have g2 : (rs.map D.ref).length < SZ := by rw [List.length_map]; exact rl
          have g3 : updS (V ++ [MO.lst (l.map .str)]) U.length (.lst (rs.map .ref ++ [.ref V.length])) = U ++ .lst ((rs ++ [V.length]).map .ref) :: (J ++ [.lst (l.map .str)]) := by
            rw [upd_ahead lU]
            unfold updS
            subst eV
            rw [List.set_append_right _ _ (Nat.le_refl _)]
            simp
          simp only [prim, g, g2, if_true, g3]
        have gl : recvOk .append (V ++ [MO.lst (l.map .str)]) (.ref U.length) = true := by
          have g : (V ++ [MO.lst (l.map .str)])[U.length]? = some (.lst (rs.map .ref)) := by rw [eV]; simp
          simp only [recvOk, asL, g, Option.isSome_some]
        refine ⟨ρ', U ++ .lst ((rs ++ [V.length]).map .ref) :: (J ++ [.lst (l.map .str)]), ?_, cr'.len, cr'.h0, cr'.h1, cs ++ [l], rs ++ [V.length], ⟨fun c hc => ?_, fun s' hs' hF => ?_, ?_, ?_, by simp [h.len], ?_, fun i r' c' hr hc => ?_, ⟨J ++ [.lst (l.map .str)], rfl⟩⟩, by simp; omega⟩
        · have et : evB (run Γ (d + 1)) (.cmp .isIn (.tup (.cons gS (.cons (.var 2) .nil))) (.fld (.var 0) "used")) ρ1 V = some (.ok true V) := by
            simp only [evB, ev, evs, ev_gS, k0, k2, bnd_ok, wV.fused, cmp_in, wV.mused, q, decide_true, tru_bl]
          have x3 : exec (run Γ (d + 1)) (.asg (.var 3) (.lst true .nil)) ρ1 V = some (.nx (ρ1.set 3 (some (.ref V.length))) (V ++ [.lst []])) := by
            simp only [exec, ev, evs, bnd_ok, mkL, if_true, bndS_ok, asgT]
          have x4 : exec (run Γ (d + 1)) (.asg (.var 4) (.var 2)) (ρ1.set 3 (some (.ref V.length))) (V ++ [.lst []]) = some (.nx ((ρ1.set 3 (some (.ref V.length))).set 4 (some (kD (.inn s)))) (V ++ [.lst []])) := by
            have : (ρ1.set 3 (some (D.ref V.length)))[2]? = some (some (kD (.inn s))) := by rw [get_set_ne (by omega)]; exact k2
            simp only [exec, ev, this, bndS_ok, asgT]
          have x5 : exec (run Γ (d + 1)) (.whileS W_Web_chains_1 W_Web_chains_2) ((ρ1.set 3 (some (.ref V.length))).set 4 (some (kD (.inn s)))) (V ++ [.lst []]) = some (.nx ρ' (V ++ [.lst (l.map .str)])) := by
            rw [exec]
            exact e1
          have x6 : exec (run Γ (d + 1)) (.expr (.prim .append false (.cons (.var 1) (.cons (.var 3) .nil)))) ρ' (V ++ [.lst (l.map .str)]) = some (.nx ρ' (U ++ .lst ((rs ++ [V.length]).map .ref) :: (J ++ [.lst (l.map .str)]))) := by
            simp only [exec, ev, evs, cr'.h1, cr'.h3, bnd_ok, gl, if_true, happ, bndS_ok]
          rw [W_Web_chains_3, execs, exec, et]
          simp only [bndS_ok, if_true]
          rw [execs, x3, thn_nx, execs, x4, thn_nx, execs, x5, thn_nx, execs, x6, thn_nx, execs, thn_nx, execs]
        · rcases List.mem_append.mp hc with hc | hc
          · obtain ⟨h1, s', h2, h3⟩ := h.full c hc
            exact ⟨h1, s', by simp [h2], h3⟩
          · simp only [List.mem_singleton] at hc
            subst hc
            exact ⟨hf, s, by simp, hh⟩
        · rcases List.mem_append.mp hs' with hs' | hs'
          · obtain ⟨c, hc, hc0⟩ := h.all s' hs' hF
            exact ⟨c, by simp [hc], hc0⟩
          · simp only [List.mem_singleton, Kn.inn.injEq] at hs'
            subst hs'
            exact ⟨l, by simp, hh⟩
        · unfold Apart
          rw [List.pairwise_append]
          refine ⟨h.apart, by simp, fun c hc c2 hc2 x hx hx2 => ?_⟩
          simp only [List.mem_singleton] at hc2
          subst hc2
          obtain ⟨h1, s', h2, h3⟩ := h.full c hc
          obtain ⟨i, hi, ei⟩ := List.mem_iff_getElem.mp hx
          obtain ⟨j, hj, ej⟩ := List.mem_iff_getElem.mp hx2
          have := (Lk.meet f h1.toLk hf.toLk i j x (by rw [List.getElem?_eq_getElem hi, ei]) (by rw [List.getElem?_eq_getElem hj, ej])).2
          rw [h3, hh] at this
          cases this
          exact xnd h2
        · rw [List.filter_append, List.length_append, List.length_append, h.cnt]
          simp [q]
        · rw [List.nodup_append]
          refine ⟨h.rnd, by simp, fun r hr r2 hr2 er => ?_⟩
          simp only [List.mem_singleton] at hr2
          subst hr2 er
          obtain ⟨i, hi, ei⟩ := List.mem_iff_getElem.mp hr
          have hc : cs[i]? = some (cs[i]'(by rw [← h.len]; exact hi)) := List.getElem?_eq_getElem _
          have q := (h.at_ i _ _ (List.getElem?_eq_getElem hi) hc).2
          rw [ei] at q
          have := (List.getElem?_eq_some_iff.mp q).1
          omega
        · have grow : ∀ {r : Nat} {o : MO}, U.length < r → V[r]? = some o → (U ++ .lst ((rs ++ [V.length]).map .ref) :: (J ++ [MO.lst (l.map .str)]))[r]? = some o := fun {r o} hr ho => by
            rw [eV] at ho
            rw [List.getElem?_append_right (by omega)] at ho ⊢
            have e1 : r - U.length = (r - U.length - 1) + 1 := by omega
            rw [e1, List.getElem?_cons_succ] at ho ⊢
            exact get_app ho
          by_cases hi : i < rs.length
          · rw [List.getElem?_append_left hi] at hr
            rw [List.getElem?_append_left (by rw [← h.len]; exact hi)] at hc
            obtain ⟨a1, a2⟩ := h.at_ i r' c' hr hc
            exact ⟨a1, grow a1 a2⟩
          · have hi2 : i < (rs ++ [V.length]).length := (List.getElem?_eq_some_iff.mp hr).1
            simp at hi2
            have : i = rs.length := by omega
            subst this
            rw [List.getElem?_append_right (Nat.le_refl _)] at hr
            rw [h.len, List.getElem?_append_right (Nat.le_refl _)] at hc
            simp at hr hc
            subst hr hc
            refine ⟨lU, ?_⟩
            have lV : V.length = U.length + (J.length + 1) := by rw [eV]; simp
            rw [List.getElem?_append_right (by omega), lV, show U.length + (J.length + 1) - U.length = J.length + 1 by omega, List.getElem?_cons_succ]
            simp
      · refine ⟨ρ1, V, ?_, kl, k0, k1, cs, rs, ⟨fun c hc => ?_, fun s' hs' hF => ?_, h.apart, ?_, h.len, h.rnd, h.at_, h.st⟩, by simp; omega⟩
        · have et : evB (run Γ (d + 1)) (.cmp .isIn (.tup (.cons gS (.cons (.var 2) .nil))) (.fld (.var 0) "used")) ρ1 V = some (.ok false V) := by
            simp only [evB, ev, evs, ev_gS, k0, k2, bnd_ok, wV.fused, cmp_in, wV.mused, q, decide_false, tru_bl]
          rw [W_Web_chains_3, execs, exec, et]
          simp only [bndS_ok, Bool.false_eq_true, if_false]
          rw [execs, thn_nx, execs]
        · obtain ⟨h1, s', h2, h3⟩ := h.full c hc
          exact ⟨h1, s', by simp [h2], h3⟩
        · rcases List.mem_append.mp hs' with hs' | hs'
          · exact h.all s' hs' hF
          · simp only [List.mem_singleton, Kn.inn.injEq] at hs'
            subst hs'
            exact absurd hF q
        · rw [List.filter_append, List.length_append, h.cnt]
          simp [q])
    [some (.ref n), some (.ref U.length), none, none, none] (U ++ [.lst []]) ⟨rfl, rfl, rfl, [], [], ⟨fun c hc => (by cases hc), fun s hs => (by cases hs), List.Pairwise.nil, rfl, rfl, List.nodup_nil, fun i r c hr => (by simp at hr), ⟨[], rfl⟩⟩, Nat.le_refl _⟩
  rcases key with ⟨ρ, V, e, l5, g0, g1, cs, rs, h, _⟩ | ⟨_, _, _, q⟩
  · exact ⟨ρ, V, cs, rs, e, l5, g0, g1, h⟩
  · exact q.elim
theorem r_chains (hbe : Γ "Web.behind" = some W_Web_behind) (hΓ : Γ "Web.chains" = some W_Web_chains) (d : Nat) (w : WAt U n goal ks L B us a b c la lb) (N : IsNet (fun h t => t ∈ L h) es starts goal) (f : Flow (fun h t => t ∈ L h) (Fu us) goal) (h0 : Kn.src ∈ ks) (hks : ∀ h t, t ∈ L h → h ∈ ks ∧ t ∈ ks) (sm : ∀ k ∈ ks, SmallK k)
    (hn : ∀ x, Kn.inn x ∈ ks → x ≠ goal → x ∈ names) (hnl : names.length < 1000) (nl : (L .src).Nodup) (ll : (L .src).length < 1000) :
    ∃ cs, Chains (Fu us) goal cs ∧ cs.length = ((L .src).filter fun t => decide ((Kn.src, t) ∈ us)).length ∧ frz true U (run Γ (d + 2) "Web.chains" [.ref n] U) = some (.ok (.lst ((cs.mergeSort leC).map chD)) U) := by
  have z1 : (2000 : Nat) < SZ := by decide
  obtain ⟨ρ, V, cs, rs, e, l5, g0, g1, h⟩ := chains_core (names := names) (es := es) (starts := starts) hbe d w N f h0 hks sm hn hnl nl ll
  obtain ⟨J, eV⟩ := h.st
  have smc : ∀ c ∈ cs, ∀ x ∈ c, Small x := fun c hc x hx => by
    obtain ⟨h', hh⟩ := (h.full c hc).1.toLk.into hx
    exact sm _ (hks _ _ (f.sub _ _ hh)).2
  obtain ⟨ys, s1, s2, s3⟩ := sort_refs (V := V) (U := U) eV h.len (fun i r c hr hc => ⟨Nat.le_of_lt (h.at_ i r c hr hc).1, (h.at_ i r c hr hc).2⟩) smc
  refine ⟨cs, ⟨fun c hc => (h.full c hc).1, h.apart, fun s hs => h.all s (f.sub _ _ hs) hs⟩, h.cnt, ?_⟩
  have hpl : plainL (cs.map chD) 39 = true := plainL_chD smc
  have hL : asL V (.ref U.length) = some (rs.map .ref) := by
    rw [eV]
    simp [asL]
  have hso : prim .sorted1 false [.ref U.length] V = some (.ok (.lst ys) V) := by
    simp only [prim, hL, s1, hpl, if_true, s2, mkL, Bool.false_eq_true, if_false]
  have er : run Γ (d + 2) "Web.chains" [.ref n] U = some (.ok (.lst ys) V) := by
    have w1 := w.app (V := [.lst []])
    rw [run_at hΓ rfl]
    simp only [W_Web_chains, startR, List.map_cons, List.map_nil, List.replicate, List.cons_append, List.nil_append, Nat.reduceSub]
    have isrc : index1 (.ref a) (.tup [(.str [115, 111, 117, 114, 99, 101]), (.str [])]) (U ++ [.lst []]) = some (.ok (.ref (la .src)) (U ++ [.lst []])) := w1.ileads h0
    simp only [execs, exec, ev, evs, evIt, asgT, mkL, if_true, bnd_ok, bndS_ok, thn_nx, List.set_cons_zero, List.set_cons_succ, List.getElem?_cons_zero, w1.fleads, ev_gS, w1.ileads h0, srcOf, get_app (w.lla .src h0), e, g1, recvOk, hso, thn_rt, fin_rt]
  rw [er]
  unfold frz
  have tk : V.take U.length = U := by rw [eV]; simp
  simp only [if_true, tk, s3]
end
end VI

/-! Wv2: how a web is made; woven; apart_chains. -/
namespace VI
def LA (arcs : List (Kn × Kn)) (h : Kn) : List Kn := (arcs.filter fun p => decide (p.1 = h)).map (·.2)
def BA (arcs : List (Kn × Kn)) (t : Kn) : List Kn := (arcs.filter fun p => decide (p.2 = t)).map (·.1)
def addK (ks : List Kn) (k : Kn) : List Kn := if k ∈ ks then ks else ks ++ [k]
def addA (arcs : List (Kn × Kn)) (p : Kn × Kn) : List (Kn × Kn) := if p ∈ arcs then arcs else arcs ++ [p]
section
variable {arcs : List (Kn × Kn)} {h t : Kn}
theorem mem_LA : t ∈ LA arcs h ↔ (h, t) ∈ arcs := by
  unfold LA
  simp only [List.mem_map, List.mem_filter, decide_eq_true_eq]
  constructor
  · rintro ⟨⟨a, b⟩, ⟨h1, h2⟩, h3⟩
    simp only at h2 h3
    subst h2 h3
    exact h1
  · exact fun h1 => ⟨_, ⟨h1, rfl⟩, rfl⟩
theorem mem_BA : h ∈ BA arcs t ↔ (h, t) ∈ arcs := by
  unfold BA
  simp only [List.mem_map, List.mem_filter, decide_eq_true_eq]
  constructor
  · rintro ⟨⟨a, b⟩, ⟨h1, h2⟩, h3⟩
    simp only at h2 h3
    subst h2 h3
    exact h1
  · exact fun h1 => ⟨_, ⟨h1, rfl⟩, rfl⟩
theorem LA_nd (nd : arcs.Nodup) : (LA arcs h).Nodup := by
  unfold LA
  rw [List.Nodup, List.pairwise_map]
  refine List.Pairwise.imp_of_mem ?_ (List.Pairwise.filter (fun p => decide (p.1 = h)) nd)
  rintro ⟨a, b⟩ ⟨a', b'⟩ h1 h2 ne e
  simp only [List.mem_filter, decide_eq_true_eq] at h1 h2 e
  exact ne (by rw [h1.2, h2.2, e])
theorem BA_nd (nd : arcs.Nodup) : (BA arcs t).Nodup := by
  unfold BA
  rw [List.Nodup, List.pairwise_map]
  refine List.Pairwise.imp_of_mem ?_ (List.Pairwise.filter (fun p => decide (p.2 = t)) nd)
  rintro ⟨a, b⟩ ⟨a', b'⟩ h1 h2 ne e
  simp only [List.mem_filter, decide_eq_true_eq] at h1 h2 e
  exact ne (by rw [h1.2, h2.2, e])
theorem LA_add {h' t' : Kn} : LA (arcs ++ [(h', t')]) h = if h = h' then LA arcs h ++ [t'] else LA arcs h := by
  unfold LA
  rw [List.filter_append]
  by_cases e : h = h'
  · subst e; simp
  · have : ¬ h' = h := fun q => e q.symm
    simp [e, this]
theorem BA_add {h' t' : Kn} : BA (arcs ++ [(h', t')]) t = if t = t' then BA arcs t ++ [h'] else BA arcs t := by
  unfold BA
  rw [List.filter_append]
  by_cases e : t = t'
  · subst e; simp
  · have : ¬ t' = t := fun q => e q.symm
    simp [e, this]
end
theorem get_upd_ne {U : Store} {o : MO} {i a : Nat} (h : i ≠ a) : (updS U a o)[i]? = U[i]? := by
  unfold updS
  exact List.getElem?_set_ne (Ne.symm h)
theorem get_upd_eq {U : Store} {o : MO} {a : Nat} (h : a < U.length) : (updS U a o)[a]? = some o := by
  unfold updS
  exact List.getElem?_set_self h
theorem len_upd {U : Store} {o : MO} {a : Nat} : (updS U a o).length = U.length := by
  unfold updS
  exact List.length_set
theorem take_upd {U : Store} {o : MO} {a n : Nat} (h : n ≤ a) : (updS U a o).take n = U.take n := by
  unfold updS
  rw [List.take_set, List.set_eq_of_length_le]
  rw [List.length_take]
  omega
theorem inL_kD {U : Store} {t : Kn} {ls : List Kn} {m : Nat} (hm : U[m]? = some (.lst (ls.map kD))) (st : SmallK t) (sm : ∀ k ∈ ls, SmallK k) : member U (kD t) (.ref m) = some (decide (t ∈ ls)) := by
  have hq : asQ U (.ref m) = some (ls.map kD) := by simp [asQ, asL, hm]
  have hl : asL U (.ref m) = some (ls.map kD) := by simp [asL, hm]
  have e : member U (kD t) (.ref m) = inL U (kD t) (.ref m) (ls.map kD) := by
    unfold member
    cases t <;> simp only [kD, hq]
  have pl : ∀ ls : List Kn, (∀ k ∈ ls, SmallK k) → plainL (ls.map kD) 39 = true := by
    intro ls
    induction ls with
    | nil => intro _; rfl
    | cons x r ih =>
      intro h
      simp only [List.map_cons, plainL, Bool.and_eq_true]
      exact ⟨plain_kD (h x (by simp)), ih fun y hy => h y (by simp [hy])⟩
  have hf : flat (kD t) = false := by cases t <;> rfl
  have sn : snaps U (kD t) (.ref m) (ls.map kD) = some (kD t, ls.map kD) := by
    unfold snaps
    rw [hf]
    simp only [Bool.false_and, Bool.false_eq_true, if_false, hl, snap_closed (closed_kD t), snapL_closed (closedL_kD ls), plain_kD st, pl ls sm, Bool.and_self, if_true]
  rw [e]
  unfold inL
  rw [sn]
  simp only [List.any_map]
  congr 1
  have : ∀ ls : List Kn, ls.any ((fun y => pyeq y (kD t)) ∘ kD) = decide (t ∈ ls) := by
    intro ls
    induction ls with
    | nil => simp
    | cons x r ih =>
      rw [List.any_cons, ih]
      simp only [Function.comp, pyeq_kD]
      by_cases q : x = t
      · subst q; simp
      · have : ¬ t = x := fun z => q z.symm
        simp [q, this]
  exact this ls
structure WNe (n a b c : Nat) (ks : List Kn) (la lb : Kn → Nat) : Prop where
  na : n ≠ a
  nb : n ≠ b
  nc : n ≠ c
  ab : a ≠ b
  ac : a ≠ c
  bc : b ≠ c
  fa : ∀ k ∈ ks, la k ≠ n ∧ la k ≠ a ∧ la k ≠ b ∧ la k ≠ c
  fb : ∀ k ∈ ks, lb k ≠ n ∧ lb k ≠ a ∧ lb k ≠ b ∧ lb k ≠ c
  fab : ∀ k ∈ ks, ∀ k' ∈ ks, la k ≠ lb k'
section
variable {U : Store} {n : Nat} {goal : Tx} {ks : List Kn} {L B : Kn → List Kn} {us : List (Kn × Kn)} {a b c : Nat} {la lb : Kn → Nat}
theorem WAt.ne (w : WAt U n goal ks L B us a b c la lb) : WNe n a b c ks la lb := by
  have nd := w.nd
  simp only [List.nodup_cons, List.mem_cons, List.mem_append, not_or, List.mem_map, not_exists, not_and] at nd
  obtain ⟨⟨n1, n2, n3, n4, n5⟩, ⟨a1, a2, a3, a4⟩, ⟨b1, b2, b3⟩, ⟨c1, c2⟩, d⟩ := nd
  rw [List.nodup_append] at d
  exact ⟨n1, n2, n3, a1, a2, b1, fun k hk => ⟨n4 k hk, a3 k hk, b2 k hk, c1 k hk⟩, fun k hk => ⟨n5 k hk, a4 k hk, b3 k hk, c2 k hk⟩, fun k hk k' hk' => d.2.2 _ (List.mem_map.mpr ⟨k, hk, rfl⟩) _ (List.mem_map.mpr ⟨k', hk', rfl⟩)⟩
theorem nd_inj {α : Type} [DecidableEq α] {f : α → Nat} : ∀ {l : List α}, (l.map f).Nodup → ∀ x ∈ l, ∀ y ∈ l, f x = f y → x = y
  | [], _, x, hx, _, _, _ => by cases hx
  | z :: r, nd, x, hx, y, hy, e => by
    rw [List.map_cons, List.nodup_cons] at nd
    rcases List.mem_cons.mp hx with rfl | hx' <;> rcases List.mem_cons.mp hy with rfl | hy'
    · rfl
    · exact absurd (List.mem_map.mpr ⟨y, hy', e.symm⟩) nd.1
    · exact absurd (List.mem_map.mpr ⟨x, hx', e⟩) nd.1
    · exact nd_inj nd.2 x hx' y hy' e
theorem WAt.inj (w : WAt U n goal ks L B us a b c la lb) : (∀ k ∈ ks, ∀ k' ∈ ks, la k = la k' → k = k') ∧ ∀ k ∈ ks, ∀ k' ∈ ks, lb k = lb k' → k = k' := by
  have nd := w.nd
  simp only [List.nodup_cons] at nd
  have d := nd.2.2.2.2
  rw [List.nodup_append] at d
  exact ⟨nd_inj d.1, nd_inj d.2.1⟩
end
/-- a web that is being made, behind U0 -/
structure Net (U0 U : Store) (goal : Tx) (ks : List Kn) (arcs : List (Kn × Kn)) : Prop where
  w : ∃ a b c la lb, WAt U U0.length goal ks (LA arcs) (BA arcs) [] a b c la lb ∧ U0.length ≤ a ∧ U0.length ≤ b ∧ U0.length ≤ c ∧ ∀ k ∈ ks, U0.length ≤ la k ∧ U0.length ≤ lb k
  pre : U.take U0.length = U0
  src : Kn.src ∈ ks
  sub : ∀ p ∈ arcs, p.1 ∈ ks ∧ p.2 ∈ ks
  nd : arcs.Nodup
  kn : ks.Nodup
section
variable {U0 U : Store} {goal : Tx} {ks : List Kn} {arcs : List (Kn × Kn)} {C : Cal} {ρ : Rho} {h t k : Kn}
theorem lead_knot (N : Net U0 U goal ks arcs) (h0 : ρ[0]? = some (some (.ref U0.length))) (h3 : ρ[3]? = some (some (kD k))) (hz : ks.length < 1000) :
    ∃ U', execs C W_Web_lead_1 ρ U = some (.nx ρ U') ∧ Net U0 U' goal (addK ks k) arcs := by
  obtain ⟨a, b, c, la, lb, w, ga, gb, gc, gl⟩ := N.w
  by_cases q : k ∈ ks
  · have e : addK ks k = ks := by unfold addK; rw [if_pos q]
    refine ⟨U, ?_, by rw [e]; exact N⟩
    simp only [W_Web_lead_1, execs, exec, evB, ev, evs, h0, h3, bnd_ok, w.fleads, cmp_notIn, w.mleads, q, decide_true, Option.map_some, Bool.not_true, tru_bl, bndS_ok, Bool.false_eq_true, if_false, thn_nx]
  · have e : addK ks k = ks ++ [k] := by unfold addK; rw [if_neg q]
    have z1 : (1000 : Nat) < SZ := by decide
    have ne := w.ne
    have ha : a < U.length := (List.getElem?_eq_some_iff.mp w.dl).1
    have hb : b < U.length := (List.getElem?_eq_some_iff.mp w.db).1
    have hc : c < U.length := (List.getElem?_eq_some_iff.mp w.du).1
    have hn : U0.length < U.length := (List.getElem?_eq_some_iff.mp w.obj).1
    have hla : ∀ x ∈ ks, la x < U.length := fun x hx => (List.getElem?_eq_some_iff.mp (w.lla x hx)).1
    have hlb : ∀ x ∈ ks, lb x < U.length := fun x hx => (List.getElem?_eq_some_iff.mp (w.llb x hx)).1
    have w1 := w.app (V := [.lst []])
    have s1 : setIx (.ref a) (kD k) (.ref U.length) (U ++ [.lst []]) = some (.ok () (updS (U ++ [.lst []]) a (.dct 1 ((ks.map fun x => (kD x, .ref (la x))) ++ [(kD k, .ref U.length)])))) := by
      have hl : (ks.map fun x => (kD x, D.ref (la x))).length < SZ := by rw [List.length_map]; omega
      simp only [setIx, w1.dl, key_kD, hl, and_self, if_true, putG kD_inj (fun x => D.ref (la x)) _ _ _ q]
    generalize hd1 : (MO.dct 1 ((ks.map fun x => (kD x, .ref (la x))) ++ [(kD k, .ref U.length)])) = d1 at s1
    have g1 : ∀ {i : Nat} {o : MO}, i ≠ a → U[i]? = some o → (updS (U ++ [.lst []]) a d1 ++ [MO.lst []])[i]? = some o := fun {i o} hi ho => by
      have : i < U.length := (List.getElem?_eq_some_iff.mp ho).1
      rw [List.getElem?_append_left (by rw [len_upd]; simp; omega), get_upd_ne hi]
      exact get_app ho
    have l1 : (updS (U ++ [MO.lst []]) a d1).length = U.length + 1 := by rw [len_upd]; simp
    have s2 : setIx (.ref b) (kD k) (.ref (U.length + 1)) (updS (U ++ [.lst []]) a d1 ++ [.lst []]) = some (.ok () (updS (updS (U ++ [.lst []]) a d1 ++ [.lst []]) b (.dct 1 ((ks.map fun x => (kD x, .ref (lb x))) ++ [(kD k, .ref (U.length + 1))])))) := by
      have hl : (ks.map fun x => (kD x, D.ref (lb x))).length < SZ := by rw [List.length_map]; omega
      simp only [setIx, g1 (Ne.symm ne.ab) w.db, key_kD, hl, and_self, if_true, putG kD_inj (fun x => D.ref (lb x)) _ _ _ q]
    generalize hd2 : (MO.dct 1 ((ks.map fun x => (kD x, .ref (lb x))) ++ [(kD k, .ref (U.length + 1))])) = d2 at s2
    have fb : getFld (.ref U0.length) "backs" (updS (U ++ [.lst []]) a d1 ++ [.lst []]) = some (.ok (.ref b) (updS (U ++ [.lst []]) a d1 ++ [.lst []])) := by
      simp [getFld, g1 ne.na w.obj, List.lookup]
    have fl : getFld (.ref U0.length) "leads" (U ++ [.lst []]) = some (.ok (.ref a) (U ++ [.lst []])) := w1.fleads
    generalize hU1 : updS (U ++ [MO.lst []]) a d1 = U1 at *
    generalize hU2 : updS (U1 ++ [MO.lst []]) b d2 = U2 at *
    have run1 : execs C W_Web_lead_1 ρ U = some (.nx ρ U2) := by
      simp only [W_Web_lead_1, execs, exec, evB, ev, evs, h0, h3, bnd_ok, w.fleads, cmp_notIn, w.mleads, q, decide_false, Option.map_some, Bool.not_false, tru_bl, bndS_ok, if_true, mkL, fl, s1, thn_nx, l1, fb, s2]
    have g2 : ∀ {i : Nat} {o : MO}, i ≠ a → i ≠ b → U[i]? = some o → U2[i]? = some o := fun {i o} hi hj ho => by
      rw [← hU2, get_upd_ne hj]
      exact g1 hi ho
    have nL : LA arcs k = [] := List.eq_nil_iff_forall_not_mem.mpr fun x hx => q (N.sub _ (mem_LA.mp hx)).1
    have nB : BA arcs k = [] := List.eq_nil_iff_forall_not_mem.mpr fun x hx => q (N.sub _ (mem_BA.mp hx)).2
    have len2 : (U1 ++ [MO.lst []]).length = U.length + 2 := by rw [List.length_append, l1]; rfl
    have e1 : U2[U.length]? = some (.lst []) := by
      rw [← hU2, get_upd_ne (by omega), List.getElem?_append_left (by omega), ← hU1, get_upd_ne (by omega)]
      simp
    have e2 : U2[U.length + 1]? = some (.lst []) := by
      rw [← hU2, get_upd_ne (by omega), List.getElem?_append_right (by omega), l1]
      simp
    have ma : ∀ (f : Kn → Nat) m, ((ks.map fun x => (kD x, D.ref (f x))) ++ [(kD k, D.ref m)]) = (ks ++ [k]).map fun x => (kD x, .ref ((fun y => if y = k then m else f y) x)) := fun f m => by
      rw [List.map_append]
      simp only [List.map_cons, List.map_nil, if_true]
      congr 1
      refine List.map_congr_left fun x hx => ?_
      have : x ≠ k := fun e => q (e ▸ hx)
      simp only [if_neg this]
    have mb : ∀ (f : Kn → Nat) m, (ks ++ [k]).map (fun y => if y = k then m else f y) = ks.map f ++ [m] := fun f m => by
      rw [List.map_append]
      simp only [List.map_cons, List.map_nil, if_true]
      congr 1
      refine List.map_congr_left fun x hx => ?_
      have : x ≠ k := fun e => q (e ▸ hx)
      simp only [if_neg this]
    refine ⟨U2, run1, ⟨a, b, c, fun y => if y = k then U.length else la y, fun y => if y = k then U.length + 1 else lb y, ⟨?_, ?_, ?_, ?_, ?_, ?_, ?_⟩, ga, gb, gc, ?_⟩, ?_, ?_, ?_, N.nd, ?_⟩
    · exact g2 ne.na ne.nb w.obj
    · rw [e, ← hU2, get_upd_ne ne.ab, List.getElem?_append_left (by omega), ← hU1, get_upd_eq (by simp; omega), ← hd1, ma]
    · rw [e, ← hU2, get_upd_eq (by omega), ← hd2, ma]
    · exact g2 (Ne.symm ne.ac) (Ne.symm ne.bc) w.du
    · intro x hx
      rw [e] at hx
      rcases List.mem_append.mp hx with hx | hx
      · have : x ≠ k := fun e => q (e ▸ hx)
        simp only [if_neg this]
        exact g2 (ne.fa x hx).2.1 (ne.fa x hx).2.2.1 (w.lla x hx)
      · simp only [List.mem_singleton] at hx
        subst hx
        simp only [if_true, nL, List.map_nil]
        exact e1
    · intro x hx
      rw [e] at hx
      rcases List.mem_append.mp hx with hx | hx
      · have : x ≠ k := fun e => q (e ▸ hx)
        simp only [if_neg this]
        exact g2 (ne.fb x hx).2.1 (ne.fb x hx).2.2.1 (w.llb x hx)
      · simp only [List.mem_singleton] at hx
        subst hx
        simp only [if_true, nB, List.map_nil]
        exact e2
    · rw [e, mb, mb]
      have p : (U0.length :: a :: b :: c :: ((ks.map la ++ [U.length]) ++ (ks.map lb ++ [U.length + 1]))).Perm (U.length :: (U.length + 1) :: (U0.length :: a :: b :: c :: (ks.map la ++ ks.map lb))) := by
        rw [List.perm_iff_count]
        intro z
        simp only [List.count_cons, List.count_append, List.count_nil]
        omega
      rw [p.nodup_iff, List.nodup_cons, List.nodup_cons]
      have lt : ∀ i ∈ U0.length :: a :: b :: c :: (ks.map la ++ ks.map lb), i < U.length := by
        intro i hi
        simp only [List.mem_cons, List.mem_append, List.mem_map] at hi
        rcases hi with rfl | rfl | rfl | rfl | ⟨x, hx, rfl⟩ | ⟨x, hx, rfl⟩
        · exact hn
        · exact ha
        · exact hb
        · exact hc
        · exact hla x hx
        · exact hlb x hx
      refine ⟨fun hi => ?_, fun hi => by have := lt _ hi; omega, w.nd⟩
      rcases List.mem_cons.mp hi with hi | hi
      · omega
      · have := lt _ hi
        omega
    · intro x hx
      rw [e] at hx
      rcases List.mem_append.mp hx with hx | hx
      · have : x ≠ k := fun e => q (e ▸ hx)
        simp only [if_neg this]
        exact gl x hx
      · simp only [List.mem_singleton] at hx
        subst hx
        simp only [if_true]
        omega
    · rw [← hU2, take_upd gb, List.take_append_of_le_length (by omega), ← hU1, take_upd ga, List.take_append_of_le_length (by omega)]
      exact N.pre
    · rw [e]
      exact List.mem_append_left _ N.src
    · intro p hp
      rw [e]
      exact ⟨List.mem_append_left _ (N.sub p hp).1, List.mem_append_left _ (N.sub p hp).2⟩
    · rw [e, List.nodup_append]
      exact ⟨N.kn, by simp, fun x hx y hy e' => by
        simp only [List.mem_singleton] at hy
        rw [hy] at e'
        exact q (e' ▸ hx)⟩
def W_lead_if : IS := (.ifS (.cmp .notIn (.var 2) (.idx (.fld (.var 0) "leads") (.var 1)))
 (.cons (.expr (.prim .append false (.cons (.idx (.fld (.var 0) "leads") (.var 1)) (.cons (.var 2) .nil))))
 (.cons (.expr (.prim .append false (.cons (.idx (.fld (.var 0) "backs") (.var 2)) (.cons (.var 1) .nil))))
 .nil))
 .nil)
theorem lead_arc (N : Net U0 U goal ks arcs) (h0 : ρ[0]? = some (some (.ref U0.length))) (h1 : ρ[1]? = some (some (kD h))) (h2 : ρ[2]? = some (some (kD t))) (hh : h ∈ ks) (ht : t ∈ ks) (sm : ∀ k ∈ ks, SmallK k) (hz : ks.length < 1000) :
    ∃ U', exec C W_lead_if ρ U = some (.nx ρ U') ∧ Net U0 U' goal ks (addA arcs (h, t)) := by
  obtain ⟨a, b, c, la, lb, w, ga, gb, gc, gl⟩ := N.w
  have ne := w.ne
  have mem : member U (kD t) (.ref (la h)) = some (decide (t ∈ LA arcs h)) := inL_kD (w.lla h hh) (sm t ht) fun k hk => sm k (N.sub _ (mem_LA.mp hk)).2
  by_cases q : (h, t) ∈ arcs
  · have e : addA arcs (h, t) = arcs := by unfold addA; rw [if_pos q]
    refine ⟨U, ?_, by rw [e]; exact N⟩
    simp only [W_lead_if, execs, exec, evB, ev, evs, h0, h1, h2, bnd_ok, w.fleads, w.ileads hh, cmp_notIn, mem, mem_LA, q, decide_true, Option.map_some, Bool.not_true, tru_bl, bndS_ok, Bool.false_eq_true, if_false]
  · have e : addA arcs (h, t) = arcs ++ [(h, t)] := by unfold addA; rw [if_neg q]
    have z1 : (1000 : Nat) < SZ := by decide
    have hla : la h < U.length := (List.getElem?_eq_some_iff.mp (w.lla h hh)).1
    have hlb : lb t < U.length := (List.getElem?_eq_some_iff.mp (w.llb t ht)).1
    have lL : ((LA arcs h).map kD).length < SZ := by
      have := nodup_le (LA_nd (h := h) N.nd) fun x hx => (N.sub _ (mem_LA.mp hx)).2
      rw [List.length_map]
      omega
    have lB : ((BA arcs t).map kD).length < SZ := by
      have := nodup_le (BA_nd (t := t) N.nd) fun x hx => (N.sub _ (mem_BA.mp hx)).1
      rw [List.length_map]
      omega
    have a1 : prim .append false [.ref (la h), kD t] U = some (.ok .non (updS U (la h) (.lst ((LA arcs h ++ [t]).map kD)))) := by
      simp only [prim, w.lla h hh, lL, if_true, List.map_append, List.map_cons, List.map_nil]
    generalize hd1 : (MO.lst ((LA arcs h ++ [t]).map kD)) = d1 at a1
    have g1 : ∀ {i : Nat} {o : MO}, i ≠ la h → U[i]? = some o → (updS U (la h) d1)[i]? = some o := fun {i o} hi ho => by
      rw [get_upd_ne hi]
      exact ho
    have fb : getFld (.ref U0.length) "backs" (updS U (la h) d1) = some (.ok (.ref b) (updS U (la h) d1)) := by
      simp [getFld, g1 (Ne.symm (ne.fa h hh).1) w.obj, List.lookup]
    have ib : index1 (.ref b) (kD t) (updS U (la h) d1) = some (.ok (.ref (lb t)) (updS U (la h) d1)) := by
      have hdb := g1 (Ne.symm (ne.fa h hh).2.2.1) w.db
      exact index_dct (t := 1) (kvs := ks.map fun k => (kD k, .ref (lb k))) (by simp [asQ, asL, hdb]) (by simp [asD, hdb]) (key_kD t) (by rw [lookG kD_inj (fun k => D.ref (lb k)), if_pos ht]) (fun x h => by cases h)
    have hB := g1 (Ne.symm (ne.fab h hh t ht)) (w.llb t ht)
    have a2 : prim .append false [.ref (lb t), kD h] (updS U (la h) d1) = some (.ok .non (updS (updS U (la h) d1) (lb t) (.lst ((BA arcs t ++ [h]).map kD)))) := by
      simp only [prim, hB, lB, if_true, List.map_append, List.map_cons, List.map_nil]
    generalize hd2 : (MO.lst ((BA arcs t ++ [h]).map kD)) = d2 at a2
    have r1 : recvOk .append U (.ref (la h)) = true := by simp only [recvOk, asL, w.lla h hh, Option.isSome_some]
    have r2 : recvOk .append (updS U (la h) d1) (.ref (lb t)) = true := by simp only [recvOk, asL, hB, Option.isSome_some]
    have run1 : exec C W_lead_if ρ U = some (.nx ρ (updS (updS U (la h) d1) (lb t) d2)) := by
      simp only [W_lead_if, execs, exec, evB, ev, evs, h0, h1, h2, bnd_ok, w.fleads, w.ileads hh, cmp_notIn, mem, mem_LA, q, decide_false, Option.map_some, Bool.not_false, tru_bl, bndS_ok, if_true, r1, a1, thn_nx, fb, ib, r2, a2]
    have g2 : ∀ {i : Nat} {o : MO}, i ≠ la h → i ≠ lb t → U[i]? = some o → (updS (updS U (la h) d1) (lb t) d2)[i]? = some o := fun {i o} hi hj ho => by
      rw [get_upd_ne hj]
      exact g1 hi ho
    refine ⟨_, run1, ⟨a, b, c, la, lb, ⟨?_, ?_, ?_, ?_, ?_, ?_, w.nd⟩, ga, gb, gc, gl⟩, ?_, N.src, ?_, ?_, N.kn⟩
    · exact g2 (Ne.symm (ne.fa h hh).1) (Ne.symm (ne.fb t ht).1) w.obj
    · exact g2 (Ne.symm (ne.fa h hh).2.1) (Ne.symm (ne.fb t ht).2.1) w.dl
    · exact g2 (Ne.symm (ne.fa h hh).2.2.1) (Ne.symm (ne.fb t ht).2.2.1) w.db
    · exact g2 (Ne.symm (ne.fa h hh).2.2.2) (Ne.symm (ne.fb t ht).2.2.2) w.du
    · intro x hx
      rw [e, LA_add]
      by_cases z : x = h
      · subst z
        rw [if_pos rfl, get_upd_ne (ne.fab x hx t ht), get_upd_eq hla, ← hd1]
      · rw [if_neg z]
        exact g2 (fun q => z (w.inj.1 x hx h hh q)) (ne.fab x hx t ht) (w.lla x hx)
    · intro x hx
      rw [e, BA_add]
      by_cases z : x = t
      · subst z
        rw [if_pos rfl, get_upd_eq (by rw [len_upd]; exact hlb), ← hd2]
      · rw [if_neg z]
        exact g2 (Ne.symm (ne.fab h hh x hx)) (fun q => z (w.inj.2 x hx t ht q)) (w.llb x hx)
    · rw [take_upd (gl t ht).2, take_upd (gl h hh).1]
      exact N.pre
    · intro p hp
      rw [e] at hp
      rcases List.mem_append.mp hp with hp | hp
      · exact N.sub p hp
      · simp only [List.mem_singleton] at hp
        subst hp
        exact ⟨hh, ht⟩
    · rw [e, List.nodup_append]
      exact ⟨N.nd, by simp, fun x hx y hy e' => by
        simp only [List.mem_singleton] at hy
        rw [hy] at e'
        exact q (e' ▸ hx)⟩
/-- .. with what was led so far -/
def NetL (U0 U : Store) (goal : Tx) (K0 : List Kn) (led : List (Kn × Kn)) : Prop :=
  ∃ ks arcs, Net U0 U goal ks arcs ∧ (∀ k ∈ ks, k ∈ K0) ∧ ∀ p, p ∈ arcs ↔ p ∈ led
theorem mem_addK {x : Kn} : x ∈ addK ks k ↔ x ∈ ks ∨ x = k := by
  unfold addK
  split
  · rename_i q
    constructor
    · exact .inl
    · rintro (h | rfl)
      · exact h
      · exact q
  · simp
theorem mem_addA {p x : Kn × Kn} : x ∈ addA arcs p ↔ x ∈ arcs ∨ x = p := by
  unfold addA
  split
  · rename_i q
    constructor
    · exact .inl
    · rintro (h | rfl)
      · exact h
      · exact q
  · simp
variable {Γ : Tab} {K0 : List Kn} {led : List (Kn × Kn)}
theorem r_lead (hΓ : Γ "Web.lead" = some W_Web_lead) (d : Nat) (N : NetL U0 U goal K0 led) (h0 : K0.length < 900) (sm : ∀ k ∈ K0, SmallK k) (hh : h ∈ K0) (ht : t ∈ K0) :
    ∃ U', run Γ (d + 1) "Web.lead" [.ref U0.length, kD h, kD t] U = some (.ok .non U') ∧ NetL U0 U' goal K0 (led ++ [(h, t)]) := by
  obtain ⟨ks, arcs, N, hk, ha⟩ := N
  have lk : ks.length ≤ K0.length := nodup_le N.kn hk
  obtain ⟨U1, e1, N1⟩ := lead_knot (C := run Γ d) (ρ := [some (.ref U0.length), some (kD h), some (kD t), some (kD h)]) N rfl rfl (k := h) (by omega)
  have lk1 : (addK ks h).length ≤ K0.length := nodup_le N1.kn fun x hx => by
    rcases mem_addK.mp hx with q | rfl
    · exact hk x q
    · exact hh
  obtain ⟨U2, e2, N2⟩ := lead_knot (C := run Γ d) (ρ := [some (.ref U0.length), some (kD h), some (kD t), some (kD t)]) N1 rfl rfl (k := t) (by omega)
  have hk2 : ∀ x ∈ addK (addK ks h) t, x ∈ K0 := fun x hx => by
    rcases mem_addK.mp hx with q | rfl
    · rcases mem_addK.mp q with q | rfl
      · exact hk x q
      · exact hh
    · exact ht
  have lk2 : (addK (addK ks h) t).length ≤ K0.length := nodup_le N2.kn hk2
  obtain ⟨U3, e3, N3⟩ := lead_arc (C := run Γ d) (ρ := [some (.ref U0.length), some (kD h), some (kD t), some (kD t)]) N2 rfl rfl rfl (h := h) (t := t) (mem_addK.mpr (.inl (mem_addK.mpr (.inr rfl)))) (mem_addK.mpr (.inr rfl)) (fun k hk => sm k (hk2 k hk)) (by omega)
  refine ⟨U3, ?_, _, _, N3, hk2, fun p => ?_⟩
  · rw [run_at hΓ rfl]
    have e3' : exec (run Γ d) (.ifS (.cmp .notIn (.var 2) (.idx (.fld (.var 0) "leads") (.var 1)))
      (.cons (.expr (.prim .append false (.cons (.idx (.fld (.var 0) "leads") (.var 1)) (.cons (.var 2) .nil))))
      (.cons (.expr (.prim .append false (.cons (.idx (.fld (.var 0) "backs") (.var 2)) (.cons (.var 1) .nil)))) .nil)) .nil) [some (.ref U0.length), some (kD h), some (kD t), some (kD t)] U2 = some (.nx [some (.ref U0.length), some (kD h), some (kD t), some (kD t)] U3) := e3
    have el : exec (run Γ d) (.forS (.var 3) (.seq (.tup (.cons (.var 1) (.cons (.var 2) .nil)))) W_Web_lead_1) [some (.ref U0.length), some (kD h), some (kD t), none] U = some (.nx [some (.ref U0.length), some (kD h), some (kD t), some (kD t)] U2) := by
      simp only [exec, evIt, ev, evs, List.getElem?_cons_zero, List.getElem?_cons_succ, bnd_ok, srcOf, bndS_ok, forGo_fix, forL, turnF, asgT, List.set_cons_succ, List.set_cons_zero, e1, turnEnd_nx, e2]
    simp only [W_Web_lead, startR, List.map_cons, List.map_nil, List.replicate, List.cons_append, List.nil_append, Nat.reduceSub]
    rw [execs, el, thn_nx, execs, e3', thn_nx, execs, fin_nx]
  · rw [mem_addA, ha]
    simp
/-- what is led of a start, of an edge -/
def ledS (goal s : Tx) : List (Kn × Kn) := if s = goal then [] else [(.src, .inn s), (.inn s, .out s)]
def ledE (goal : Tx) (e : Tx × Tx) : List (Kn × Kn) := if e.1 = goal ∨ e.1 = e.2 then [] else [(.inn e.1, .out e.1), (.out e.1, .inn e.2)] ++ if e.2 = goal then [] else [(.inn e.2, .out e.2)]
def ledA (goal : Tx) (starts : List Tx) (es : List (Tx × Tx)) : List (Kn × Kn) := starts.flatMap (ledS goal) ++ es.flatMap (ledE goal)
theorem call_lead (hΓ : Γ "Web.lead" = some W_Web_lead) (d : Nat) (N : NetL U0 U goal K0 led) (h0 : K0.length < 900) (sm : ∀ k ∈ K0, SmallK k) (hh : h ∈ K0) (ht : t ∈ K0) (hr : ρ[0]? = some (some (.ref U0.length))) {es : IEs} (he : evs (run Γ (d + 1)) es ρ U = some (.ok [kD h, kD t] U)) :
    ∃ U', exec (run Γ (d + 1)) (.expr (.meth false "Web" "lead" (.var 0) es)) ρ U = some (.nx ρ U') ∧ NetL U0 U' goal K0 (led ++ [(h, t)]) := by
  obtain ⟨U', e, N'⟩ := r_lead hΓ d N h0 sm hh ht
  have N2 := N
  obtain ⟨ks, arcs, N, _, _⟩ := N
  obtain ⟨a, b, c, la, lb, w, _⟩ := N.w
  refine ⟨U', ?_, N'⟩
  have e' : run Γ (d + 1) ("Web" ++ "." ++ "lead") [.ref U0.length, kD h, kD t] U = some (.ok .non U') := e
  simp only [exec, ev, hr, bnd_ok, w.obj, if_true, he, frz, Bool.false_eq_true, if_false, e', bndS_ok]
structure IR0 (ρ : Rho) (n : Nat) (de ds : D) (goal : Tx) : Prop where
  len : ρ.length = 7
  h0 : ρ[0]? = some (some (.ref n))
  h1 : ρ[1]? = some (some de)
  h2 : ρ[2]? = some (some ds)
  h3 : ρ[3]? = some (some (.str goal))
theorem IR0.set {ρ : Rho} {n : Nat} {de ds : D} {goal : Tx} (r : IR0 ρ n de ds goal) {i : Nat} {o : Option D} (hi : 3 < i) : IR0 (ρ.set i o) n de ds goal :=
  ⟨by rw [List.length_set]; exact r.len, by rw [get_set_ne (by omega)]; exact r.h0, by rw [get_set_ne (by omega)]; exact r.h1, by rw [get_set_ne (by omega)]; exact r.h2, by rw [get_set_ne (by omega)]; exact r.h3⟩
theorem init_start (hΓ : Γ "Web.lead" = some W_Web_lead) (d : Nat) {de ds : D} {s : Tx} (N : NetL U0 U goal K0 led) (h0 : K0.length < 900) (sm : ∀ k ∈ K0, SmallK k) (hk : Kn.src ∈ K0 ∧ Kn.inn s ∈ K0 ∧ Kn.out s ∈ K0) (r : IR0 ρ U0.length de ds goal) (h4 : ρ[4]? = some (some (.str s))) :
    ∃ U', execs (run Γ (d + 1)) W_Web___init___1 ρ U = some (.nx ρ U') ∧ NetL U0 U' goal K0 (led ++ ledS goal s) := by
  by_cases q : s = goal
  · refine ⟨U, ?_, by simp only [ledS, if_pos q, List.append_nil]; exact N⟩
    simp only [W_Web___init___1, execs, exec, evB, ev, h4, r.h3, bnd_ok, cmp_ne_str, q, decide_true, Bool.not_true, tru_bl, bndS_ok, Bool.false_eq_true, if_false, thn_nx]
  · have p1 : (.tup [.str [105, 110], .str s] : D) = kD (.inn s) := rfl
    have p2 : (.tup [.str [111, 117, 116], .str s] : D) = kD (.out s) := rfl
    obtain ⟨U1, e1, N1⟩ := call_lead (ρ := ρ) hΓ d N h0 sm hk.1 hk.2.1 r.h0 (es := (.cons gS (.cons (.tup (.cons (.cst (.str [105, 110])) (.cons (.var 4) .nil))) .nil))) (by simp only [evs, ev_gS, ev, h4, bnd_ok, p1])
    obtain ⟨U2, e2, N2⟩ := call_lead (ρ := ρ) hΓ d N1 h0 sm hk.2.1 hk.2.2 r.h0 (es := (.cons (.tup (.cons (.cst (.str [105, 110])) (.cons (.var 4) .nil))) (.cons (.tup (.cons (.cst (.str [111, 117, 116])) (.cons (.var 4) .nil))) .nil))) (by simp only [evs, ev, h4, bnd_ok, p1, p2])
    refine ⟨U2, ?_, by simp only [ledS, if_neg q]; simpa using N2⟩
    have et : evB (run Γ (d + 1)) (.cmp .ne (.var 4) (.var 3)) ρ U = some (.ok true U) := by
      simp only [evB, ev, h4, r.h3, bnd_ok, cmp_ne_str, q, decide_false, Bool.not_false, tru_bl]
    rw [W_Web___init___1, execs, exec, et]
    simp only [bndS_ok, if_true]
    rw [execs, e1, thn_nx, execs, e2, thn_nx, execs, thn_nx, execs]
theorem init_edge (hΓ : Γ "Web.lead" = some W_Web_lead) (d : Nat) {de ds : D} {x y : Tx} (N : NetL U0 U goal K0 led) (h0 : K0.length < 900) (sm : ∀ k ∈ K0, SmallK k) (hk : (Kn.inn x ∈ K0 ∧ Kn.out x ∈ K0) ∧ Kn.inn y ∈ K0 ∧ Kn.out y ∈ K0) (r : IR0 ρ U0.length de ds goal) (h5 : ρ[5]? = some (some (.str x))) (h6 : ρ[6]? = some (some (.str y))) :
    ∃ U', execs (run Γ (d + 1)) W_Web___init___2 ρ U = some (.nx ρ U') ∧ NetL U0 U' goal K0 (led ++ ledE goal (x, y)) := by
  have et : evB (run Γ (d + 1)) (.andE (.cmp .ne (.var 5) (.var 3)) (.cmp .ne (.var 5) (.var 6))) ρ U = some (.ok (!decide (x = goal) && !decide (x = y)) U) := by
    by_cases q : x = goal
    · simp only [evB, ev, h5, r.h3, bnd_ok, cmp_ne_str, q, decide_true, Bool.not_true, tru_bl, Bool.false_eq_true, if_false, Bool.false_and]
    · simp only [evB, ev, h5, h6, r.h3, bnd_ok, cmp_ne_str, q, decide_false, Bool.not_false, tru_bl, if_true, Bool.true_and]
  by_cases q : x = goal ∨ x = y
  · refine ⟨U, ?_, by simp only [ledE, if_pos q, List.append_nil]; exact N⟩
    have : (!decide (x = goal) && !decide (x = y)) = false := by rcases q with q | q <;> simp [q]
    rw [W_Web___init___2, execs, exec, et, this]
    simp only [bndS_ok, Bool.false_eq_true, if_false, execs, thn_nx]
  · have : (!decide (x = goal) && !decide (x = y)) = true := by
      simp only [not_or] at q
      simp [q.1, q.2]
    have px1 : (.tup [.str [105, 110], .str x] : D) = kD (.inn x) := rfl
    have px2 : (.tup [.str [111, 117, 116], .str x] : D) = kD (.out x) := rfl
    have py1 : (.tup [.str [105, 110], .str y] : D) = kD (.inn y) := rfl
    have py2 : (.tup [.str [111, 117, 116], .str y] : D) = kD (.out y) := rfl
    obtain ⟨U1, e1, N1⟩ := call_lead (ρ := ρ) hΓ d N h0 sm hk.1.1 hk.1.2 r.h0 (es := (.cons (.tup (.cons (.cst (.str [105, 110])) (.cons (.var 5) .nil))) (.cons (.tup (.cons (.cst (.str [111, 117, 116])) (.cons (.var 5) .nil))) .nil))) (by simp only [evs, ev, h5, bnd_ok, px1, px2])
    obtain ⟨U2, e2, N2⟩ := call_lead (ρ := ρ) hΓ d N1 h0 sm hk.1.2 hk.2.1 r.h0 (es := (.cons (.tup (.cons (.cst (.str [111, 117, 116])) (.cons (.var 5) .nil))) (.cons (.tup (.cons (.cst (.str [105, 110])) (.cons (.var 6) .nil))) .nil))) (by simp only [evs, ev, h5, h6, bnd_ok, px2, py1])
    by_cases q2 : y = goal
    · refine ⟨U2, ?_, by simp only [ledE, if_neg q, if_pos q2]; simpa using N2⟩
      have et2 : evB (run Γ (d + 1)) (.cmp .ne (.var 6) (.var 3)) ρ U2 = some (.ok false U2) := by
        simp only [evB, ev, h6, r.h3, bnd_ok, cmp_ne_str, q2, decide_true, Bool.not_true, tru_bl]
      rw [W_Web___init___2, execs, exec, et, this]
      simp only [bndS_ok, if_true]
      rw [execs, e1, thn_nx, execs, e2, thn_nx, execs, exec, et2]
      simp only [bndS_ok, Bool.false_eq_true, if_false, execs, thn_nx]
    · obtain ⟨U3, e3, N3⟩ := call_lead (ρ := ρ) hΓ d N2 h0 sm hk.2.1 hk.2.2 r.h0 (es := (.cons (.tup (.cons (.cst (.str [105, 110])) (.cons (.var 6) .nil))) (.cons (.tup (.cons (.cst (.str [111, 117, 116])) (.cons (.var 6) .nil))) .nil))) (by simp only [evs, ev, h6, bnd_ok, py1, py2])
      refine ⟨U3, ?_, by simp only [ledE, if_neg q, if_neg q2]; simpa using N3⟩
      have et2 : evB (run Γ (d + 1)) (.cmp .ne (.var 6) (.var 3)) ρ U2 = some (.ok true U2) := by
        simp only [evB, ev, h6, r.h3, bnd_ok, cmp_ne_str, q2, decide_false, Bool.not_false, tru_bl]
      rw [W_Web___init___2, execs, exec, et, this]
      simp only [bndS_ok, if_true]
      rw [execs, e1, thn_nx, execs, e2, thn_nx, execs, exec, et2]
      simp only [bndS_ok, if_true]
      rw [execs, e3, thn_nx, execs, thn_nx, execs, thn_nx, execs]
/-- the knots that there may be -/
def knots (names : List Tx) : List Kn := .src :: (names.map .inn ++ names.map .out)
theorem knots_in {names : List Tx} {x : Tx} (h : x ∈ names) : Kn.inn x ∈ knots names ∧ Kn.out x ∈ knots names := by
  unfold knots
  simp [h]
theorem in_knots {names : List Tx} {x : Tx} (h : Kn.inn x ∈ knots names) : x ∈ names := by
  unfold knots at h
  simpa using h
theorem knots_len {names : List Tx} : (knots names).length = 2 * names.length + 1 := by
  unfold knots
  simp
  omega
theorem knots_small {names : List Tx} (h : ∀ x ∈ names, Small x) : ∀ k ∈ knots names, SmallK k := by
  intro k hk
  cases k with
  | src => trivial
  | inn x => exact h x (in_knots hk)
  | out x =>
    refine h x ?_
    unfold knots at hk
    simpa using hk
variable {names starts : List Tx} {es : List (Tx × Tx)}
theorem r_init (hl : Γ "Web.lead" = some W_Web_lead) (hΓ : Γ "Web.__init__" = some W_Web___init__) (d : Nat) (U0 : Store) (hn : names.length < 400) (sm : ∀ x ∈ names, Small x) (hs : ∀ s ∈ starts, s ∈ names) (he : ∀ e ∈ es, e.1 ∈ names ∧ e.2 ∈ names) :
    ∃ V, run Γ (d + 2) "Web.__init__" [.ref U0.length, .lst (edD es), .lst (starts.map .str), .str goal] (U0 ++ [.ins "Web" []]) = some (.ok .non V) ∧ NetL U0 V goal (knots names) (ledA goal starts es) := by
  have kl : (knots names).length < 900 := by rw [knots_len]; omega
  have ks := knots_small sm
  -- the fields
  generalize hde : (D.lst (edD es)) = de
  generalize hds : (D.lst (starts.map .str)) = ds
  have r0 : IR0 [some (.ref U0.length), some de, some ds, some (.str goal), none, none, none] U0.length de ds goal := ⟨rfl, rfl, rfl, rfl, rfl⟩
  generalize hρ : ([some (.ref U0.length), some de, some ds, some (.str goal), none, none, none] : Rho) = ρ0 at r0
  have gi : ∀ {f : List (String × D)} {l : List MO}, (U0 ++ (MO.ins "Web" f :: l))[U0.length]? = some (.ins "Web" f) := by simp
  have ui : ∀ {f f' : List (String × D)} {l : List MO}, updS (U0 ++ (MO.ins "Web" f :: l)) U0.length (.ins "Web" f') = U0 ++ (MO.ins "Web" f' :: l) := by simp [updS]
  have nz : ∀ n : Nat, n ≤ 3 → n < 900 := by omega
  have x1 : exec (run Γ (d + 1)) (.asgF (.var 0) "goal" (.tup (.cons (.cst (.str [105, 110])) (.cons (.var 3) .nil)))) ρ0 (U0 ++ [.ins "Web" []]) = some (.nx ρ0 (U0 ++ [.ins "Web" [("goal", kD (.inn goal))]])) := by
    have p : (.tup [.str [105, 110], .str goal] : D) = kD (.inn goal) := rfl
    have sf : setFld (.ref U0.length) "goal" (kD (.inn goal)) (U0 ++ [.ins "Web" []]) = some (.ok () (U0 ++ [.ins "Web" [("goal", kD (.inn goal))]])) := by
      simp only [setFld, gi, List.length_nil, putFld, ui, if_true, nz 0 (by omega)]
    simp only [exec, ev, evs, r0.h3, r0.h0, bnd_ok, p, bndS_ok, sf]
  have x2 : exec (run Γ (d + 1)) (.asgF (.var 0) "leads" (.done true 1 gS (.lst true .nil))) ρ0 (U0 ++ [.ins "Web" [("goal", kD (.inn goal))]]) = some (.nx ρ0 (U0 ++ [.ins "Web" [("goal", kD (.inn goal)), ("leads", .ref (U0.length + 2))], .lst [], .dct 1 [(kD .src, .ref (U0.length + 1))]])) := by
    have l1 : (U0 ++ [MO.ins "Web" [("goal", kD (.inn goal))]]).length = U0.length + 1 := by simp
    have l2 : ((U0 ++ [MO.ins "Web" [("goal", kD (.inn goal))]]) ++ [MO.lst []]).length = U0.length + 2 := by simp
    have u : (((U0 ++ [MO.ins "Web" [("goal", kD (.inn goal))]]) ++ [MO.lst []]) ++ [MO.dct 1 [(kD .src, .ref (U0.length + 1))]]) = U0 ++ (MO.ins "Web" [("goal", kD (.inn goal))] :: [MO.lst [], MO.dct 1 [(kD .src, .ref (U0.length + 1))]]) := by simp
    have sf : setFld (.ref U0.length) "leads" (.ref (U0.length + 2)) (U0 ++ (MO.ins "Web" [("goal", kD (.inn goal))] :: [MO.lst [], MO.dct 1 [(kD .src, .ref (U0.length + 1))]])) = some (.ok () (U0 ++ (MO.ins "Web" [("goal", kD (.inn goal)), ("leads", .ref (U0.length + 2))] :: [MO.lst [], MO.dct 1 [(kD .src, .ref (U0.length + 1))]]))) := by
      simp [setFld, putFld, updS]
    simp only [exec, ev, ev_gS, evs, r0.h0, bnd_ok, mkL, mkD, if_true, key_kD, l1, l2, u, bndS_ok, sf]
  have x3 : exec (run Γ (d + 1)) (.asgF (.var 0) "backs" (.done true 1 gS (.lst true .nil))) ρ0 (U0 ++ [.ins "Web" [("goal", kD (.inn goal)), ("leads", .ref (U0.length + 2))], .lst [], .dct 1 [(kD .src, .ref (U0.length + 1))]]) =
      some (.nx ρ0 (U0 ++ [.ins "Web" [("goal", kD (.inn goal)), ("leads", .ref (U0.length + 2)), ("backs", .ref (U0.length + 4))], .lst [], .dct 1 [(kD .src, .ref (U0.length + 1))], .lst [], .dct 1 [(kD .src, .ref (U0.length + 3))]])) := by
    generalize hi : (MO.ins "Web" [("goal", kD (.inn goal)), ("leads", .ref (U0.length + 2))]) = i0
    generalize hdd : (MO.dct 1 [(kD .src, .ref (U0.length + 1))]) = d0
    have l1 : (U0 ++ [i0, MO.lst [], d0]).length = U0.length + 3 := by simp
    have l2 : ((U0 ++ [i0, MO.lst [], d0]) ++ [MO.lst []]).length = U0.length + 4 := by simp
    have u : (((U0 ++ [i0, MO.lst [], d0]) ++ [MO.lst []]) ++ [MO.dct 1 [(kD .src, .ref (U0.length + 3))]]) = U0 ++ (i0 :: [MO.lst [], d0, MO.lst [], MO.dct 1 [(kD .src, .ref (U0.length + 3))]]) := by simp
    have sf : setFld (.ref U0.length) "backs" (.ref (U0.length + 4)) (U0 ++ (i0 :: [MO.lst [], d0, MO.lst [], MO.dct 1 [(kD .src, .ref (U0.length + 3))]])) = some (.ok () (U0 ++ [.ins "Web" [("goal", kD (.inn goal)), ("leads", .ref (U0.length + 2)), ("backs", .ref (U0.length + 4))], .lst [], d0, .lst [], .dct 1 [(kD .src, .ref (U0.length + 3))]])) := by
      rw [← hi]
      simp [setFld, putFld, updS]
    simp only [exec, ev, ev_gS, evs, r0.h0, bnd_ok, mkL, mkD, if_true, key_kD, l1, l2, u, bndS_ok, sf]
  have x4 : exec (run Γ (d + 1)) (.asgF (.var 0) "used" (.dnil true 1)) ρ0 (U0 ++ [.ins "Web" [("goal", kD (.inn goal)), ("leads", .ref (U0.length + 2)), ("backs", .ref (U0.length + 4))], .lst [], .dct 1 [(kD .src, .ref (U0.length + 1))], .lst [], .dct 1 [(kD .src, .ref (U0.length + 3))]]) =
      some (.nx ρ0 (U0 ++ [.ins "Web" [("goal", kD (.inn goal)), ("leads", .ref (U0.length + 2)), ("backs", .ref (U0.length + 4)), ("used", .ref (U0.length + 5))], .lst [], .dct 1 [(kD .src, .ref (U0.length + 1))], .lst [], .dct 1 [(kD .src, .ref (U0.length + 3))], .dct 1 []])) := by
    generalize hi : (MO.ins "Web" [("goal", kD (.inn goal)), ("leads", .ref (U0.length + 2)), ("backs", .ref (U0.length + 4))]) = i0
    generalize hdd : (MO.dct 1 [(kD .src, .ref (U0.length + 1))]) = d0
    generalize hde : (MO.dct 1 [(kD .src, .ref (U0.length + 3))]) = d1
    have l1 : (U0 ++ [i0, MO.lst [], d0, MO.lst [], d1]).length = U0.length + 5 := by simp
    have u : ((U0 ++ [i0, MO.lst [], d0, MO.lst [], d1]) ++ [MO.dct 1 []]) = U0 ++ (i0 :: [MO.lst [], d0, MO.lst [], d1, MO.dct 1 []]) := by simp
    have sf : setFld (.ref U0.length) "used" (.ref (U0.length + 5)) (U0 ++ (i0 :: [MO.lst [], d0, MO.lst [], d1, MO.dct 1 []])) = some (.ok () (U0 ++ [.ins "Web" [("goal", kD (.inn goal)), ("leads", .ref (U0.length + 2)), ("backs", .ref (U0.length + 4)), ("used", .ref (U0.length + 5))], .lst [], d0, .lst [], d1, .dct 1 []])) := by
      rw [← hi]
      simp [setFld, putFld, updS]
    simp only [exec, ev, r0.h0, bnd_ok, mkD, if_true, l1, u, bndS_ok, sf]
  generalize hU1 : (U0 ++ [.ins "Web" [("goal", kD (.inn goal)), ("leads", .ref (U0.length + 2)), ("backs", .ref (U0.length + 4)), ("used", .ref (U0.length + 5))], .lst [], .dct 1 [(kD .src, .ref (U0.length + 1))], .lst [], .dct 1 [(kD .src, .ref (U0.length + 3))], .dct 1 []]) = U1 at x4
  have N0 : NetL U0 U1 goal (knots names) [] := by
    refine ⟨[.src], [], ⟨⟨U0.length + 2, U0.length + 4, U0.length + 5, fun _ => U0.length + 1, fun _ => U0.length + 3, ⟨?_, ?_, ?_, ?_, ?_, ?_, ?_⟩, Nat.le_add_right _ _, Nat.le_add_right _ _, Nat.le_add_right _ _, fun _ _ => ⟨Nat.le_add_right _ _, Nat.le_add_right _ _⟩⟩, ?_, by simp, (fun p hp => (by cases hp)), List.nodup_nil, by simp⟩, fun k hk => ?_, fun p => Iff.rfl⟩
    · rw [← hU1]; simp
    · rw [← hU1]; simp
    · rw [← hU1]; simp
    · rw [← hU1]; simp
    · intro k hk
      rw [← hU1]; simp [LA]
    · intro k hk
      rw [← hU1]; simp [BA]
    · simp
    · rw [← hU1]; simp
    · simp only [List.mem_singleton] at hk
      subst hk
      simp [knots]
  -- the starts
  obtain ⟨ρ1, U2, e2, r1, N1⟩ := forL_all (turn := turnF (.var 4) (execs (run Γ (d + 1)) W_Web___init___1)) (fun dn ρ V => IR0 ρ U0.length de ds goal ∧ ∃ dx, dn = dx.map .str ∧ NetL U0 V goal (knots names) (dx.flatMap (ledS goal))) (starts.map .str) [] ρ0 U1 ⟨r0, [], rfl, N0⟩
    (fun dn x r ρ V e ⟨hr, dx, hdn, hN⟩ => by
      have hx : x ∈ starts.map D.str := by rw [show starts.map D.str = dn ++ x :: r from by simpa using e]; simp
      obtain ⟨s, hs1, rfl⟩ := List.mem_map.mp hx
      have hk := knots_in (hs s hs1)
      obtain ⟨V', e', N'⟩ := init_start (ρ := ρ.set 4 (some (.str s))) hl d hN kl ks ⟨by simp [knots], hk⟩ (hr.set (by omega)) (get_set_eq (by rw [hr.len]; omega))
      exact ⟨_, V', e', hr.set (by omega), dx ++ [s], by rw [hdn]; simp, by simpa using N'⟩)
  obtain ⟨dx, hdx, N1⟩ := N1
  have : dx = starts := by
    have h : starts.map D.str = dx.map D.str := by simpa using hdx
    exact (List.map_inj_right (fun _ _ e => by cases e; rfl)).mp h.symm
  subst this
  obtain ⟨ρ2, U3, e3, r2, N2⟩ := forL_all (turn := turnF (.tup [5, 6]) (execs (run Γ (d + 1)) W_Web___init___2)) (fun dn ρ V => IR0 ρ U0.length de ds goal ∧ ∃ dy, dn = dy.map eD ∧ NetL U0 V goal (knots names) (dx.flatMap (ledS goal) ++ dy.flatMap (ledE goal))) (edD es) [] ρ1 U2 ⟨r1, [], rfl, by simpa using N1⟩
    (fun dn x r ρ V e ⟨hr, dy, hdn, hN⟩ => by
      have hx : x ∈ es.map eD := by rw [show es.map eD = dn ++ x :: r from by simpa [edD] using e]; simp
      obtain ⟨p, hp, rfl⟩ := List.mem_map.mp hx
      have k1 := knots_in (he p hp).1
      have k2 := knots_in (he p hp).2
      obtain ⟨V', e', N'⟩ := init_edge (ρ := (ρ.set 5 (some (.str p.1))).set 6 (some (.str p.2))) (x := p.1) (y := p.2) hl d hN kl ks ⟨k1, k2⟩ ((hr.set (i := 5) (by omega)).set (i := 6) (by omega)) (by rw [get_set_ne (by omega)]; exact get_set_eq (by rw [hr.len]; omega)) (get_set_eq (by rw [List.length_set, hr.len]; omega))
      refine ⟨(ρ.set 5 (some (.str p.1))).set 6 (some (.str p.2)), V', ?_, (hr.set (i := 5) (by omega)).set (i := 6) (by omega), dy ++ [p], by rw [hdn]; simp, by simpa using N'⟩
      simp only [turnF, asgT, eD, asQ, setAll]
      exact e')
  obtain ⟨dy, hdy, N2⟩ := N2
  have : dy = es := by
    have h : es.map eD = dy.map eD := by simpa [edD] using hdy
    exact (List.map_inj_right (fun a b e => by
      obtain ⟨a1, a2⟩ := a
      obtain ⟨b1, b2⟩ := b
      simpa [eD] using e)).mp h.symm
  subst this
  refine ⟨U3, ?_, N2⟩
  rw [run_at hΓ rfl]
  simp only [W_Web___init__, startR, List.map_cons, List.map_nil, List.replicate, List.cons_append, List.nil_append, Nat.reduceSub]
  have f1 : exec (run Γ (d + 1)) (.forS (.var 4) (.seq (.var 2)) W_Web___init___1) ρ0 U1 = some (.nx ρ1 U2) := by
    simp only [exec, evIt, ev, r0.h2, bnd_ok, ← hds, srcOf, bndS_ok, forGo_fix, e2]
  have f2 : exec (run Γ (d + 1)) (.forS (.tup [5, 6]) (.seq (.var 1)) W_Web___init___2) ρ1 U2 = some (.nx ρ2 U3) := by
    simp only [exec, evIt, ev, r1.h1, bnd_ok, ← hde, srcOf, bndS_ok, forGo_fix, e3]
  rw [hρ, execs, x1, thn_nx, execs, x2, thn_nx, execs, x3, thn_nx, execs, x4, thn_nx, execs, f1, thn_nx, execs, f2, thn_nx, execs, fin_nx]
end
end VI

/-! Wv3: woven, apart_chains. -/
namespace VI
section
variable {goal : Tx} {starts : List Tx} {es : List (Tx × Tx)} {arcs : List (Kn × Kn)}
theorem mem_ledA {p : Kn × Kn} : p ∈ ledA goal starts es ↔ (∃ s ∈ starts, s ≠ goal ∧ (p = (.src, .inn s) ∨ p = (.inn s, .out s))) ∨
    ∃ x y, (x, y) ∈ es ∧ x ≠ goal ∧ x ≠ y ∧ (p = (.inn x, .out x) ∨ p = (.out x, .inn y) ∨ (y ≠ goal ∧ p = (.inn y, .out y))) := by
  unfold ledA
  rw [List.mem_append, List.mem_flatMap, List.mem_flatMap]
  constructor
  · rintro (⟨s, hs, hp⟩ | ⟨⟨x, y⟩, hs, hp⟩)
    · unfold ledS at hp
      split at hp
      · cases hp
      · rename_i q
        exact .inl ⟨s, hs, q, by simpa using hp⟩
    · unfold ledE at hp
      split at hp
      · cases hp
      · rename_i q
        simp only [not_or] at q
        refine .inr ⟨x, y, hs, q.1, q.2, ?_⟩
        rcases List.mem_append.mp hp with hp | hp
        · rcases (by simpa using hp : p = (.inn x, .out x) ∨ p = (.out x, .inn y)) with h | h
          · exact .inl h
          · exact .inr (.inl h)
        · split at hp
          · cases hp
          · rename_i q2
            exact .inr (.inr ⟨q2, by simpa using hp⟩)
  · rintro (⟨s, hs, q, hp⟩ | ⟨x, y, hs, q1, q2, hp⟩)
    · refine .inl ⟨s, hs, ?_⟩
      unfold ledS
      rw [if_neg q]
      simpa using hp
    · refine .inr ⟨(x, y), hs, ?_⟩
      unfold ledE
      rw [if_neg (by simp [q1, q2])]
      rw [List.mem_append]
      rcases hp with h | h | ⟨h1, h⟩
      · exact .inl (by simp [h])
      · exact .inl (by simp [h])
      · refine .inr ?_
        rw [if_neg h1]
        simp [h]
theorem net_of (ha : ∀ p, p ∈ arcs ↔ p ∈ ledA goal starts es) : IsNet (fun h t => t ∈ LA arcs h) es starts goal := by
  have E : ∀ h t, t ∈ LA arcs h ↔ (h, t) ∈ ledA goal starts es := fun h t => mem_LA.trans (ha _)
  refine ⟨fun t => ?_, fun x t h => ?_, fun x t => ?_, fun h x hh hx => ?_⟩
  · rw [E, mem_ledA]
    constructor
    · rintro (⟨s, hs, q, e | e⟩ | ⟨x, y, _, _, _, e | e | ⟨_, e⟩⟩)
      · cases e
        exact ⟨s, rfl, hs, q⟩
      all_goals cases e
    · rintro ⟨s, rfl, hs, q⟩
      exact .inl ⟨s, hs, q, .inl rfl⟩
  · rw [E, mem_ledA] at h
    rcases h with ⟨s, hs, q, e | e⟩ | ⟨a, b, hs, q1, q2, e | e | ⟨q3, e⟩⟩
    · cases e
    · cases e
      exact ⟨rfl, q⟩
    · cases e
      exact ⟨rfl, q1⟩
    · cases e
    · cases e
      exact ⟨rfl, q3⟩
  · rw [E, mem_ledA]
    constructor
    · rintro (⟨s, hs, q, e | e⟩ | ⟨a, b, hs, q1, q2, e | e | ⟨_, e⟩⟩)
      · cases e
      · cases e
      · cases e
      · cases e
        exact ⟨b, rfl, hs, q1, q2⟩
      · cases e
    · rintro ⟨y, rfl, hs, q1, q2⟩
      exact .inr ⟨x, y, hs, q1, q2, .inr (.inl rfl)⟩
  · rw [E, mem_ledA] at hh ⊢
    rcases hh with ⟨s, hs, q, e | e⟩ | ⟨a, b, hs, q1, q2, e | e | ⟨q3, e⟩⟩
    · cases e
      exact .inl ⟨_, hs, q, .inr rfl⟩
    · cases e
    · cases e
    · cases e
      exact .inr ⟨a, _, hs, q1, q2, .inr (.inr ⟨hx, rfl⟩)⟩
    · cases e
theorem ledA_len : (ledA goal starts es).length ≤ 2 * starts.length + 3 * es.length := by
  unfold ledA
  rw [List.length_append]
  have h1 : ∀ l : List Tx, (l.flatMap (ledS goal)).length ≤ 2 * l.length := by
    intro l
    induction l with
    | nil => simp
    | cons x r ih =>
      rw [List.flatMap_cons, List.length_append]
      have : (ledS goal x).length ≤ 2 := by unfold ledS; split <;> simp
      simp only [List.length_cons]
      omega
  have h2 : ∀ l : List (Tx × Tx), (l.flatMap (ledE goal)).length ≤ 3 * l.length := by
    intro l
    induction l with
    | nil => simp
    | cons x r ih =>
      rw [List.flatMap_cons, List.length_append]
      have : (ledE goal x).length ≤ 3 := by
        unfold ledE
        split
        · simp
        · split <;> simp
      simp only [List.length_cons]
      omega
  have := h1 starts
  have := h2 es
  omega
/-- one more of those counted -/
theorem count_one {α : Type} [DecidableEq α] {f g : α → Prop} [DecidablePred f] [DecidablePred g] {p : α} : ∀ {l : List α}, l.Nodup → p ∈ l → ¬ f p → (∀ t, g t ↔ f t ∨ t = p) → (l.filter fun t => decide (g t)).length = (l.filter fun t => decide (f t)).length + 1
  | x :: r, nd, hp, hf, hg => by
    rw [List.nodup_cons] at nd
    by_cases e : x = p
    · subst e
      have e1 : (r.filter fun t => decide (g t)) = r.filter fun t => decide (f t) := List.filter_congr fun t ht => by
        have : t ≠ x := fun e => nd.1 (e ▸ ht)
        rw [decide_eq_decide, hg]
        simp [this]
      have gx : g x := (hg x).mpr (.inr rfl)
      simp [gx, hf, e1]
    · have hp' : p ∈ r := by
        rcases List.mem_cons.mp hp with q | q
        · exact absurd q.symm e
        · exact q
      have ih := count_one nd.2 hp' hf hg
      have : g x ↔ f x := by
        rw [hg]
        simp [e]
      by_cases q : f x
      · have q2 := this.mpr q
        simp [q, q2, ih]
      · have q2 : ¬ g x := fun z => q (this.mp z)
        simp [q, q2, ih]
theorem count_lt {α : Type} {f : α → Bool} {p : α} : ∀ {l : List α}, p ∈ l → f p = false → (l.filter f).length < l.length
  | x :: r, hp, hf => by
    rcases List.mem_cons.mp hp with rfl | hp
    · have := List.length_filter_le f r
      rw [List.filter_cons, hf]
      simp only [Bool.false_eq_true, if_false, List.length_cons]
      omega
    · have := count_lt hp hf
      rw [List.filter_cons]
      split <;> simp only [List.length_cons] <;> omega
theorem mem_stepsL {us : List (Kn × Kn)} {h t : Kn} : t ∈ stepsL (LA arcs) (BA arcs) us h → Res (fun h t => t ∈ LA arcs h) (Fu us) h t := by
  unfold stepsL
  rw [List.mem_append, List.mem_filter, List.mem_filter]
  rintro (⟨h1, h2⟩ | ⟨h1, h2⟩)
  · refine .inl ⟨h1, ?_⟩
    unfold goOn at h2
    simp only [Bool.or_eq_true, Bool.not_eq_true', decide_eq_false_iff_not] at h2
    exact h2
  · refine .inr ?_
    unfold goBack at h2
    simpa using h2
theorem stepsL_mem {us : List (Kn × Kn)} {h t : Kn} (f : Flow (fun h t => t ∈ LA arcs h) (Fu us) goal) (r : Res (fun h t => t ∈ LA arcs h) (Fu us) h t) : t ∈ stepsL (LA arcs) (BA arcs) us h := by
  unfold stepsL
  rw [List.mem_append, List.mem_filter, List.mem_filter]
  rcases r with ⟨h1, h2⟩ | h1
  · refine .inl ⟨h1, ?_⟩
    unfold goOn
    simp only [Bool.or_eq_true, Bool.not_eq_true', decide_eq_false_iff_not]
    exact h2
  · refine .inr ⟨mem_BA.mpr (mem_LA.mp (f.sub _ _ h1)), ?_⟩
    unfold goBack
    exact decide_eq_true h1
theorem way_of {us ps : List (Kn × Kn)} {P : List Kn} (bw : Bw ps P) (hd : P[0]? = some (.inn goal)) (hs : ∀ (k : Nat) x y, P[k]? = some x → P[k + 1]? = some y → x ∈ stepsL (LA arcs) (BA arcs) us y) : Way (fun h t => t ∈ LA arcs h) (Fu us) goal P :=
  ⟨hd, bw.last, bw.nd, fun i h t h1 h2 => mem_stepsL (hs i t h h1 h2)⟩
theorem fu_aug {us : List (Kn × Kn)} {P : List Kn} (nd : us.Nodup) (ndP : P.Nodup) : Fu (augL us P) = Aug (Fu us) P := by
  funext u v
  exact propext ((augL_ok P us nd ndP).2.2 u v)
/-- a web with its flow, behind U0 -/
structure Wd (U0 V : Store) (goal : Tx) (starts : List Tx) (es : List (Tx × Tx)) (names : List Tx) (ks : List Kn) (arcs us : List (Kn × Kn)) : Prop where
  w : ∃ a b c la lb, WAt V U0.length goal ks (LA arcs) (BA arcs) us a b c la lb ∧ U0.length ≤ c
  pre : V.take U0.length = U0
  src : Kn.src ∈ ks
  sub : ∀ p ∈ arcs, p.1 ∈ ks ∧ p.2 ∈ ks
  nd : arcs.Nodup
  kn : ks.Nodup
  kin : ∀ k ∈ ks, k ∈ knots names
  ar : ∀ p, p ∈ arcs ↔ p ∈ ledA goal starts es
  fl : Flow (fun h t => t ∈ LA arcs h) (Fu us) goal
  un : us.Nodup
def count (arcs us : List (Kn × Kn)) : Nat := ((LA arcs .src).filter fun t => decide ((Kn.src, t) ∈ us)).length
variable {U0 V : Store} {names : List Tx} {ks : List Kn} {us ps : List (Kn × Kn)} {i : Nat} {Γ : Tab}
theorem Wd.net (W : Wd U0 V goal starts es names ks arcs us) : IsNet (fun h t => t ∈ LA arcs h) es starts goal := net_of W.ar
theorem Wd.klen (W : Wd U0 V goal starts es names ks arcs us) : ks.length ≤ 2 * names.length + 1 := by
  have := nodup_le W.kn W.kin
  rw [knots_len] at this
  exact this
theorem Wd.llen (W : Wd U0 V goal starts es names ks arcs us) (k : Kn) : (LA arcs k).length ≤ 2 * names.length + 1 ∧ (BA arcs k).length ≤ 2 * names.length + 1 := by
  have h1 := nodup_le (LA_nd (h := k) W.nd) fun x hx => (W.sub _ (mem_LA.mp hx)).2
  have h2 := nodup_le (BA_nd (t := k) W.nd) fun x hx => (W.sub _ (mem_BA.mp hx)).1
  have := W.klen
  omega
theorem Wd.ulen (W : Wd U0 V goal starts es names ks arcs us) : us.length ≤ 2 * starts.length + 3 * es.length := by
  refine Nat.le_trans (nodup_le W.un fun p hp => ?_) (ledA_len (goal := goal))
  exact (W.ar p).mp (mem_LA.mp (W.fl.sub p.1 p.2 hp))
theorem Wd.steps (W : Wd U0 V goal starts es names ks arcs us) : ∀ h ∈ ks, ∀ t ∈ stepsL (LA arcs) (BA arcs) us h, t ∈ ks := by
  intro h _ t ht
  unfold stepsL at ht
  rcases List.mem_append.mp ht with ht | ht
  · exact (W.sub _ (mem_LA.mp (List.mem_filter.mp ht).1)).2
  · exact (W.sub _ (mem_BA.mp (List.mem_filter.mp ht).1)).1
theorem Wd.reach (W : Wd U0 V goal starts es names ks arcs us) (hs : Γ "Web.steps" = some W_Web_steps) (hr : Γ "Web.reach" = some W_Web_reach) (hn : names.length < 100) (d : Nat) {ρ : Rho} (h4 : ρ[4]? = some (some (.ref U0.length))) :
    ∃ ps i, RI ks (LA arcs) (BA arcs) us ps i ∧ (i = ps.length ∨ Kn.inn goal ∈ ps.map (·.1)) ∧ exec (run Γ (d + 2)) (.asg (.var 6) (.meth true "Web" "reach" (.var 4) .nil)) ρ V = some (.nx (ρ.set 6 (some (.dct 1 (ps.map pr)))) V) := by
  obtain ⟨a, b, c, la, lb, w, gc⟩ := W.w
  have kl := W.klen
  obtain ⟨ps, i, r1, r2, r3⟩ := r_reach hs hr d w W.src (fun k _ => by have := W.llen k; omega) (by omega) W.steps
  refine ⟨ps, i, r1, r2, ?_⟩
  have r3' : frz true V (run Γ (d + 2) ("Web" ++ "." ++ "reach") [.ref U0.length] V) = some (.ok (.dct 1 (ps.map pr)) V) := r3
  simp only [exec, ev, h4, bnd_ok, w.obj, if_true, evs, r3', bndS_ok, asgT]
theorem Wd.turn (W : Wd U0 V goal starts es names ks arcs us) (hΓ : Γ "Web.turn" = some W_Web_turn) (hn : names.length < 100) (hm : 2 * starts.length + 3 * es.length < 100000) (sm : ∀ x ∈ names, Small x) (d : Nat) {ρ : Rho} (h4 : ρ[4]? = some (some (.ref U0.length))) (h6 : ρ[6]? = some (some (.dct 1 (ps.map pr))))
    (ri : RI ks (LA arcs) (BA arcs) us ps i) (hg : Kn.inn goal ∈ ps.map (·.1)) :
    count arcs us < (LA arcs .src).length ∧ ∃ us' V', Wd U0 V' goal starts es names ks arcs us' ∧ count arcs us' = count arcs us + 1 ∧ exec (run Γ (d + 1)) (.expr (.meth false "Web" "turn" (.var 4) (.cons (.var 6) .nil))) ρ V = some (.nx ρ V') := by
  obtain ⟨a, b, c, la, lb, w, gc⟩ := W.w
  have kl := W.klen
  have ul := W.ulen
  obtain ⟨P, V', bw, hd, hst, pl, e1, w1, l1, g1⟩ := r_turn hΓ d w ri hg (fun k hk => knots_small sm k (W.kin k hk)) (by omega) (by omega) W.un
  have way := way_of (arcs := arcs) bw hd hst
  obtain ⟨p, hp1, hp2, hp3⟩ := way.first W.net W.fl
  have fa := fu_aug W.un bw.nd
  have fl' : Flow (fun h t => t ∈ LA arcs h) (Fu (augL us P)) goal := by
    rw [fa]
    exact W.fl.aug W.net way
  refine ⟨count_lt hp1 (decide_eq_false hp2), augL us P, V', ⟨⟨a, b, c, la, lb, w1, gc⟩, ?_, W.src, W.sub, W.nd, W.kn, W.kin, W.ar, fl', (augL_ok P us W.un bw.nd).1⟩, ?_, ?_⟩
  · refine Eq.trans ?_ W.pre
    apply List.ext_getElem?
    intro j
    rw [List.getElem?_take, List.getElem?_take]
    split
    · rw [g1 j (by omega)]
    · rfl
  · unfold count
    refine count_one (f := fun t => (Kn.src, t) ∈ us) (g := fun t => (Kn.src, t) ∈ augL us P) (LA_nd W.nd) hp1 hp2 fun t => ?_
    have : Fu (augL us P) .src t ↔ Aug (Fu us) P .src t := by rw [fa]
    exact this.trans (hp3 t)
  · have e1' : run Γ (d + 1) ("Web" ++ "." ++ "turn") [.ref U0.length, .dct 1 (ps.map pr)] V = some (.ok .non V') := e1
    simp only [exec, ev, evs, h4, h6, bnd_ok, w.obj, if_true, frz, Bool.false_eq_true, if_false, e1', bndS_ok]
/-- what a table must have: up to the web and its flow -/
structure HasWoven (Γ : Tab) : Prop where
  init : Γ "Web.__init__" = some W_Web___init__
  lead : Γ "Web.lead" = some W_Web_lead
  steps : Γ "Web.steps" = some W_Web_steps
  reach : Γ "Web.reach" = some W_Web_reach
  turn : Γ "Web.turn" = some W_Web_turn
  behind : Γ "Web.behind" = some W_Web_behind
  woven : Γ "woven" = some W_woven
/-- .. and the chains -/
structure HasWeb (Γ : Tab) : Prop where
  init : Γ "Web.__init__" = some W_Web___init__
  lead : Γ "Web.lead" = some W_Web_lead
  steps : Γ "Web.steps" = some W_Web_steps
  reach : Γ "Web.reach" = some W_Web_reach
  turn : Γ "Web.turn" = some W_Web_turn
  behind : Γ "Web.behind" = some W_Web_behind
  chains : Γ "Web.chains" = some W_Web_chains
  woven : Γ "woven" = some W_woven
theorem HasWeb.core {Γ : Tab} (T : HasWeb Γ) : HasWoven Γ := ⟨T.init, T.lead, T.steps, T.reach, T.turn, T.behind, T.woven⟩
/-- what is handed in -/
structure Given (names starts : List Tx) (es : List (Tx × Tx)) : Prop where
  few : names.length < 100
  sm : ∀ x ∈ names, Small x
  start : ∀ s ∈ starts, s ∈ names
  edge : ∀ e ∈ es, e.1 ∈ names ∧ e.2 ∈ names
  fs : starts.length < 10000
  fe : es.length < 20000
theorem r_woven (T : HasWoven Γ) (G : Given names starts es) (d : Nat) (U0 : Store) (most : Nat) (hmost : most < 900000) :
    ∃ V ks arcs us ps i, Wd U0 V goal starts es names ks arcs us ∧ RI ks (LA arcs) (BA arcs) us ps i ∧ (i = ps.length ∨ Kn.inn goal ∈ ps.map (·.1)) ∧ (Kn.inn goal ∈ ps.map (·.1) → count arcs us = most ∧ count arcs us < (LA arcs .src).length) ∧ count arcs us ≤ most ∧
      run Γ (d + 3) "woven" [.lst (edD es), .lst (starts.map .str), .str goal, .int most] U0 = some (.ok (.tup [.ref U0.length, .dct 1 (ps.map pr)]) V) := by
  have gf := G.few
  have gs := G.fs
  have ge := G.fe
  obtain ⟨V0, e0, ks, arcs, N, hk, ha⟩ := r_init (goal := goal) T.lead T.init d U0 (by omega) G.sm G.start G.edge
  obtain ⟨a, b, c, la, lb, w, ga, gb, gc, gl⟩ := N.w
  have W0 : Wd U0 V0 goal starts es names ks arcs [] := ⟨⟨a, b, c, la, lb, w, gc⟩, N.pre, N.src, N.sub, N.nd, N.kn, hk, ha, ⟨fun u v q => (by cases q), fun k h h' _ q => (by cases q), fun k h h' _ q => (by cases q), fun k _ _ => ⟨fun ⟨_, q⟩ => (by cases q), fun ⟨_, q⟩ => (by cases q)⟩⟩, List.nodup_nil⟩
  have c0 : count arcs [] = 0 := by unfold count; simp
  generalize hde : (D.lst (edD es)) = de at *
  generalize hds : (D.lst (starts.map .str)) = ds at *
  have x1 : exec (run Γ (d + 2)) (.asg (.var 4) (.make "Web" (.cons (.var 0) (.cons (.var 1) (.cons (.var 2) .nil))))) [some de, some ds, some (.str goal), some (.int most), none, none, none] U0 = some (.nx [some de, some ds, some (.str goal), some (.int most), some (.ref U0.length), none, none] V0) := by
    have e0' : run Γ (d + 2) ("Web" ++ ".__init__") [.ref U0.length, de, ds, .str goal] (U0 ++ [.ins "Web" []]) = some (.ok .non V0) := e0
    simp only [exec, ev, evs, List.getElem?_cons_zero, List.getElem?_cons_succ, bnd_ok, e0', bndS_ok, asgT, List.set_cons_succ, List.set_cons_zero]
  obtain ⟨ps0, i0, ri0, rg0, x3⟩ := W0.reach T.steps T.reach gf d (ρ := [some de, some ds, some (.str goal), some (.int most), some (.ref U0.length), some (.int 0), none]) rfl
  have loop : ∃ r, whileGo (evB (run Γ (d + 2)) W_woven_1) (execs (run Γ (d + 2)) W_woven_2) WN [some de, some ds, some (.str goal), some (.int most), some (.ref U0.length), some (.int 0), some (.dct 1 (ps0.map pr))] V0 = some r ∧
      ∃ V us ps i many, Wd U0 V goal starts es names ks arcs us ∧ RI ks (LA arcs) (BA arcs) us ps i ∧ (i = ps.length ∨ Kn.inn goal ∈ ps.map (·.1)) ∧ (Kn.inn goal ∈ ps.map (·.1) → count arcs us = most ∧ count arcs us < (LA arcs .src).length) ∧ count arcs us ≤ most ∧ r = .nx [some de, some ds, some (.str goal), some (.int most), some (.ref U0.length), some (.int many), some (.dct 1 (ps.map pr))] V := by
    have zw : (900000 : Nat) < WN := by decide
    refine while_ends (fun m ρ V => ∃ us ps i, Wd U0 V goal starts es names ks arcs us ∧ RI ks (LA arcs) (BA arcs) us ps i ∧ (i = ps.length ∨ Kn.inn goal ∈ ps.map (·.1)) ∧ ρ = [some de, some ds, some (.str goal), some (.int most), some (.ref U0.length), some (.int (count arcs us : Nat)), some (.dct 1 (ps.map pr))] ∧ count arcs us ≤ most ∧ m = most - count arcs us) _ ?_ WN (most - 0) _ _ (by omega)
      ⟨[], ps0, i0, W0, ri0, rg0, by rw [c0]; rfl, by omega, by rw [c0]⟩
    rintro m ρ V ⟨us, ps, i, W, ri, rg, rfl, hle, rfl⟩
    obtain ⟨a, b, c, la, lb, w, gc⟩ := W.w
    have mem : member V (kD (.inn goal)) (.dct 1 (ps.map pr)) = some (decide (Kn.inn goal ∈ ps.map (·.1))) := by
      rw [show kD (.inn goal) = .tup [.str tIN, .str goal] from rfl, member_tupD]
      unfold hasD
      have : keyFor 1 (.tup [.str tIN, .str goal]) = true := key_kD (.inn goal)
      simp only [asD, this, if_true]
      rw [show (D.tup [.str tIN, .str goal]) = kD (.inn goal) from rfl, has_pr]
    have test : evB (run Γ (d + 2)) W_woven_1 [some de, some ds, some (.str goal), some (.int most), some (.ref U0.length), some (.int (count arcs us : Nat)), some (.dct 1 (ps.map pr))] V = some (.ok (decide (Kn.inn goal ∈ ps.map (·.1)) && decide (count arcs us < most)) V) := by
      by_cases q : Kn.inn goal ∈ ps.map (·.1)
      · have : decide ((count arcs us : Int) < (most : Int)) = decide (count arcs us < most) := by simp
        simp only [W_woven_1, evB, ev, List.getElem?_cons_zero, List.getElem?_cons_succ, bnd_ok, w.fgoal, cmp_in, mem, q, decide_true, tru_bl, if_true, cmp_lt_int, this, Bool.true_and]
      · simp only [W_woven_1, evB, ev, List.getElem?_cons_zero, List.getElem?_cons_succ, bnd_ok, w.fgoal, cmp_in, mem, q, decide_false, tru_bl, Bool.false_eq_true, if_false, Bool.false_and]
    rw [test]
    by_cases q : Kn.inn goal ∈ ps.map (·.1)
    · obtain ⟨lt, us', V', W', hc, e1⟩ := W.turn T.turn gf (by omega) G.sm (d + 1) (ρ := [some de, some ds, some (.str goal), some (.int most), some (.ref U0.length), some (.int (count arcs us : Nat)), some (.dct 1 (ps.map pr))]) rfl rfl ri q
      by_cases q2 : count arcs us < most
      · obtain ⟨ps', i', ri', rg', e3⟩ := W'.reach T.steps T.reach gf d (ρ := [some de, some ds, some (.str goal), some (.int most), some (.ref U0.length), some (.int (count arcs us' : Nat)), some (.dct 1 (ps.map pr))]) rfl
        refine .inr ⟨by simp only [q, q2, decide_true, Bool.and_self], .inl ⟨most - count arcs us', _, V', by omega, ?_, us', ps', i', W', ri', rg', rfl, by omega, rfl⟩⟩
        have e2 : exec (run Γ (d + 2)) (.aug 5 .add (.cst (.int 1))) [some de, some ds, some (.str goal), some (.int most), some (.ref U0.length), some (.int (count arcs us : Nat)), some (.dct 1 (ps.map pr))] V' = some (.nx [some de, some ds, some (.str goal), some (.int most), some (.ref U0.length), some (.int (count arcs us' : Nat)), some (.dct 1 (ps.map pr))] V') := by
          have : ((count arcs us : Int) + 1) = ((count arcs us' : Nat) : Int) := by omega
          simp only [exec, List.getElem?_cons_zero, List.getElem?_cons_succ, ev, bndS_ok, List.set_cons_succ, List.set_cons_zero, this]
        rw [W_woven_2, execs, e1, thn_nx, execs, e2, thn_nx, execs, e3, thn_nx, execs]
        rfl
      · refine .inl ⟨by simp only [q, q2, decide_true, decide_false, Bool.and_false], V, us, ps, i, count arcs us, W, ri, rg, fun _ => ⟨by omega, lt⟩, hle, rfl⟩
    · refine .inl ⟨by simp only [q, decide_false, Bool.false_and], V, us, ps, i, count arcs us, W, ri, rg, fun q' => absurd q' q, hle, rfl⟩
  obtain ⟨r, e4, V, us, ps, i, many, W, ri, rg, hg, hle, rfl⟩ := loop
  refine ⟨V, ks, arcs, us, ps, i, W, ri, rg, hg, hle, ?_⟩
  rw [run_at T.woven rfl]
  simp only [W_woven, startR, List.map_cons, List.map_nil, List.replicate, List.cons_append, List.nil_append, Nat.reduceSub]
  have x2 : exec (run Γ (d + 2)) (.asg (.var 5) (.cst (.int 0))) [some de, some ds, some (.str goal), some (.int most), some (.ref U0.length), none, none] V0 = some (.nx [some de, some ds, some (.str goal), some (.int most), some (.ref U0.length), some (.int 0), none] V0) := by
    simp only [exec, ev, bndS_ok, asgT, List.set_cons_succ, List.set_cons_zero]
  have x3' : exec (run Γ (d + 2)) (.asg (.var 6) (.meth true "Web" "reach" (.var 4) .nil)) [some de, some ds, some (.str goal), some (.int most), some (.ref U0.length), some (.int 0), none] V0 = some (.nx [some de, some ds, some (.str goal), some (.int most), some (.ref U0.length), some (.int 0), some (.dct 1 (ps0.map pr))] V0) := x3
  have x4 : exec (run Γ (d + 2)) (.whileS W_woven_1 W_woven_2) [some de, some ds, some (.str goal), some (.int most), some (.ref U0.length), some (.int 0), some (.dct 1 (ps0.map pr))] V0 = some (.nx [some de, some ds, some (.str goal), some (.int most), some (.ref U0.length), some (.int many), some (.dct 1 (ps.map pr))] V) := by
    rw [exec]
    exact e4
  rw [execs, x1, thn_nx, execs, x2, thn_nx, execs, x3', thn_nx, execs, x4, thn_nx]
  simp only [execs, exec, ev, evs, List.getElem?_cons_zero, List.getElem?_cons_succ, bnd_ok, bndS_ok, thn_rt, fin_rt]
/-! ### apart_chains -/
theorem lcL_fm {α : Type} {turn : D → M (Option D)} {U : Store} (g : α → D) (f : α → Option D) : ∀ (xs : List α), (∀ x ∈ xs, turn (g x) U = some (.ok (f x) U)) → lcL turn (xs.map g) U = some (.ok (xs.filterMap f) U)
  | [], _ => rfl
  | x :: r, h => by
    show bnd (turn (g x) U) (fun o U1 => bnd (lcL turn (r.map g) U1) fun ds U2 => ret (match o with | some d => d :: ds | none => ds) U2) = _
    rw [h x (by simp)]
    simp only [bnd_ok]
    rw [lcL_fm g f r fun y hy => h y (by simp [hy])]
    simp only [bnd_ok, ret_eq, List.filterMap_cons]
    cases f x <;> rfl
def leS (a b : Tx) : Bool := !ltD (.str b) (.str a)
theorem sort_strs (l : List Tx) : sortBy (l.map .str) (l.map .str) = some ((l.mergeSort leS).map .str) := by
  have can : canSort (l.map .str) = true := by
    unfold canSort
    simp only [Bool.and_eq_true, Bool.or_eq_true, List.all_eq_true, List.mem_map]
    refine ⟨?_, .inr ?_⟩
    · rintro _ ⟨a, _, rfl⟩ _ ⟨b, _, rfl⟩
      rfl
    · rintro _ ⟨a, _, rfl⟩
      rfl
  have zz : (l.map D.str).zip (l.map D.str) = l.map fun x => (D.str x, D.str x) := by
    induction l with
    | nil => rfl
    | cons x r ih =>
      simp only [List.map_cons, List.zip_cons_cons]
      rw [ih]
      unfold canSort at can ⊢
      simp only [Bool.and_eq_true, Bool.or_eq_true, List.all_eq_true, List.mem_map]
      refine ⟨?_, .inr ?_⟩
      · rintro _ ⟨a, _, rfl⟩ _ ⟨b, _, rfl⟩
        rfl
      · rintro _ ⟨a, _, rfl⟩
        rfl
  unfold sortBy
  rw [if_pos ⟨rfl, can⟩, zz]
  have : (l.map fun x => (D.str x, D.str x)).mergeSort (fun p q => !ltD q.1 p.1) = (l.mergeSort leS).map fun x => (D.str x, D.str x) := by
    exact (List.map_mergeSort (r := leS) (s := fun p q : D × D => !ltD q.1 p.1) (f := fun x : Tx => (D.str x, D.str x)) fun a _ b _ => rfl).symm
  rw [this, List.map_map]
  rfl
/-- the people who are come to, and not gone on from -/
def cutF (came : List Kn) : Kn → Option Tx
  | .inn x => if Kn.out x ∈ came then none else some x
  | _ => none
def cutL (came : List Kn) : List Tx := came.filterMap (cutF came)
theorem mem_cutL {came : List Kn} {x : Tx} : x ∈ cutL came ↔ Kn.inn x ∈ came ∧ Kn.out x ∉ came := by
  unfold cutL
  rw [List.mem_filterMap]
  constructor
  · rintro ⟨k, hk, e⟩
    cases k with
    | src => cases e
    | out y => cases e
    | inn y =>
      simp only [cutF] at e
      split at e
      · cases e
      · rename_i q
        cases e
        exact ⟨hk, q⟩
  · rintro ⟨h1, h2⟩
    exact ⟨_, h1, by simp only [cutF, if_neg h2]⟩
theorem cutL_nd {came : List Kn} (nd : came.Nodup) : (cutL came).Nodup := by
  unfold cutL
  have key : ∀ l : List Kn, l.Nodup → (l.filterMap (cutF came)).Nodup := by
    intro l
    induction l with
    | nil => intro _; simp
    | cons k r ih =>
      intro nd
      rw [List.nodup_cons] at nd
      rw [List.filterMap_cons]
      split
      · exact ih nd.2
      · rename_i x e
        rw [List.nodup_cons]
        refine ⟨fun hx => ?_, ih nd.2⟩
        obtain ⟨k', hk', e'⟩ := List.mem_filterMap.mp hx
        have : ∀ {k : Kn} {x : Tx}, cutF came k = some x → k = .inn x := fun {k x} e => by
          cases k with
          | src => cases e
          | out y => cases e
          | inn y =>
            simp only [cutF] at e
            split at e
            · cases e
            · cases e
              rfl
        rw [this e', ← this e] at hk'
        exact nd.1 hk'
  exact key came nd
theorem Best.perm {cs cs' : List (List Tx)} {cut cut' : List Tx} (b : Best es starts goal cs cut) (p : cs'.Perm cs) (q : cut'.Perm cut) : Best es starts goal cs' cut' := by
  refine ⟨fun c hc => b.chain c (p.mem_iff.mp hc), ?_, q.nodup_iff.mpr b.nd, by rw [q.length_eq, p.length_eq, b.size], fun h => b.ng (q.mem_iff.mp h), fun h => b.meets ?_⟩
  · unfold Apart
    exact (List.Perm.pairwise_iff (fun {x y} h z hz hz' => h z hz' hz) p).mpr b.apart
  · obtain ⟨y, r, e⟩ := h
    refine ⟨y, ?_, e⟩
    clear e
    induction r with
    | start h1 h2 h3 => exact .start h1 h2 fun z => h3 (q.mem_iff.mpr z)
    | step r e g c ih => exact .step ih e g fun z => c (q.mem_iff.mpr z)
/-- apart_chains ahead of its end -/
theorem apart_core (T : HasWoven Γ) (G : Given names starts es) (d : Nat) (U0 : Store) :
    ∃ (V : Store) (ks : List Kn) (arcs us : List (Kn × Kn)) (cut : List Tx) (came : D), Wd U0 V goal starts es names ks arcs us ∧ (∀ cs, Chains (Fu us) goal cs → Best es starts goal cs cut) ∧ (∀ x ∈ cut, x ∈ names) ∧
      exec (run Γ (d + 3)) (.asg (.tup [3, 4]) (.call false "woven" (.cons (.var 0) (.cons (.var 1) (.cons (.var 2) (.cons (.prim .len false (.cons (.var 1) .nil)) .nil)))))) [some (.lst (edD es)), some (.lst (starts.map .str)), some (.str goal), none, none, none, none] U0 = some (.nx [some (.lst (edD es)), some (.lst (starts.map .str)), some (.str goal), some (.ref U0.length), some came, none, none] V) ∧
      exec (run Γ (d + 3)) (.asg (.var 5) (.lc false [6] (.var 6) (.keys 4) W_apart_chains_1 W_apart_chains_2)) [some (.lst (edD es)), some (.lst (starts.map .str)), some (.str goal), some (.ref U0.length), some came, none, none] V = some (.nx [some (.lst (edD es)), some (.lst (starts.map .str)), some (.str goal), some (.ref U0.length), some came, some (.lst (cut.map .str)), none] V) := by
  have gf := G.few
  have gs := G.fs
  obtain ⟨V, ks, arcs, us, ps, i, W, ri, rg, hg, hle, e1⟩ := r_woven (goal := goal) T G d U0 starts.length (by omega)
  have N := W.net
  -- the goal isn't come to
  have ng : Kn.inn goal ∉ ps.map (·.1) := fun q => by
    obtain ⟨h1, h2⟩ := hg q
    have : (LA arcs .src).length ≤ (starts.map Kn.inn).length := nodup_le (LA_nd W.nd) fun t ht => by
      obtain ⟨s, rfl, hs, _⟩ := (N.ss t).mp ht
      exact List.mem_map.mpr ⟨s, hs, rfl⟩
    rw [List.length_map] at this
    omega
  have ie : i = ps.length := rg.resolve_right ng
  obtain ⟨a, b, c, la, lb, w, gc⟩ := W.w
  have kn : ∀ x, Kn.inn x ∈ ks → x ∈ names := fun x hx => in_knots (W.kin _ hx)
  have sk : ∀ k ∈ ks, SmallK k := fun k hk => knots_small G.sm k (W.kin k hk)
  have seen : Seen (fun h t => t ∈ LA arcs h) (Fu us) goal (fun k => k ∈ ps.map (·.1)) := by
    refine ⟨?_, fun h t hh r => ?_, ng, fun x hx hxg => ?_⟩
    · exact List.mem_map.mpr ⟨_, List.mem_of_getElem? ri.hd, rfl⟩
    · obtain ⟨⟨h', p⟩, hp, rfl⟩ := List.mem_map.mp hh
      obtain ⟨j, hj, ej⟩ := List.mem_iff_getElem.mp hp
      exact ri.done j (by omega) h' p (by rw [List.getElem?_eq_getElem hj, ej]) t (stepsL_mem W.fl r)
    · obtain ⟨⟨k', p⟩, hp, e⟩ := List.mem_map.mp hx
      simp only at e
      subst e
      obtain ⟨j, hj, ej⟩ := List.mem_iff_getElem.mp hp
      have gj : ps[j]? = some (.inn x, p) := by rw [List.getElem?_eq_getElem hj, ej]
      cases j with
      | zero =>
        rw [ri.hd] at gj
        cases gj
      | succ j =>
        obtain ⟨_, hs⟩ := ri.par j _ _ gj
        rcases mem_stepsL hs with ⟨h1, _⟩ | h1
        · exact N.ex _ _ h1 hxg
        · have h2 := W.fl.sub _ _ h1
          obtain ⟨rfl, _⟩ := N.io x _ h2
          exact h2
  have hcut : ∀ x, x ∈ cutL (ps.map (·.1)) ↔ Kn.inn x ∈ ps.map (·.1) ∧ ¬ Kn.out x ∈ ps.map (·.1) := fun x => mem_cutL
  have cnd := cutL_nd ri.nd
  have cin : ∀ x ∈ cutL (ps.map (·.1)), x ∈ names := fun x hx => by
    obtain ⟨p, hp, e⟩ := List.mem_map.mp (mem_cutL.mp hx).1
    exact kn x (e ▸ ri.sub p hp)
  have best : ∀ cs, Chains (Fu us) goal cs → Best es starts goal cs (cutL (ps.map (·.1))) := fun cs C =>
    ⟨fun c hc => (C.full c hc).chain N W.fl, C.apart, cnd, cut_size (names := names) N W.fl seen hcut cnd (fun h y hy _ => kn y (W.sub _ (mem_LA.mp hy)).2) cin C, fun h => ng ((hcut goal).mp h).1, cut_meets N seen hcut⟩
  have z0 : (1000 : Nat) < SZ := by decide
  have hpl : ps.length < 1000 := by
    have := ri.len
    have := W.klen
    omega
  generalize hde : (D.lst (edD es)) = de at *
  generalize hds : (D.lst (starts.map .str)) = ds at *
  have lenS : lenOf ds U0 = some (.ok (.int starts.length) U0) := by
    rw [← hds]
    simp [lenOf, asQ, asL]
  have x1 : exec (run Γ (d + 3)) (.asg (.tup [3, 4]) (.call false "woven" (.cons (.var 0) (.cons (.var 1) (.cons (.var 2) (.cons (.prim .len false (.cons (.var 1) .nil)) .nil)))))) [some de, some ds, some (.str goal), none, none, none, none] U0 = some (.nx [some de, some ds, some (.str goal), some (.ref U0.length), some (.dct 1 (ps.map pr)), none, none] V) := by
    simp only [exec, ev, evs, List.getElem?_cons_zero, List.getElem?_cons_succ, bnd_ok, recvOk, if_true, prim, lenS, e1, frz, Bool.false_eq_true, if_false, bndS_ok, asgT, asQ, setAll, List.set_cons_succ, List.set_cons_zero]
  -- the cut
  have turn : ∀ k ∈ ps.map (·.1), turnL (.var 6) (evB (run Γ (d + 3)) W_apart_chains_1) (ev (run Γ (d + 3)) W_apart_chains_2) (wipe [some de, some ds, some (.str goal), some (.ref U0.length), some (.dct 1 (ps.map pr)), none, none] [6]) (kD k) V = some (.ok ((cutF (ps.map (·.1)) k).map .str) V) := by
    intro k hk
    have mem : ∀ x, member V (.tup [.str [111, 117, 116], .str x]) (.dct 1 (ps.map pr)) = some (decide (Kn.out x ∈ ps.map (·.1))) := fun x => by
      rw [member_tupD]
      unfold hasD
      have : keyFor 1 (.tup [.str [111, 117, 116], .str x]) = true := key_kD (.out x)
      simp only [asD, this, if_true]
      rw [show (D.tup [.str [111, 117, 116], .str x]) = kD (.out x) from rfl, has_pr]
    have g6 : (wipe [some de, some ds, some (.str goal), some (.ref U0.length), some (.dct 1 (ps.map pr)), none, none] [6] : Rho).set 6 (some (kD k)) = [some de, some ds, some (.str goal), some (.ref U0.length), some (.dct 1 (ps.map pr)), none, some (kD k)] := rfl
    simp only [turnL, asgT, g6, W_apart_chains_1, W_apart_chains_2, evB, ev, evs, List.getElem?_cons_zero, List.getElem?_cons_succ, bnd_ok, idx0, cmp_eq_str, tag_in, tru_bl]
    cases k with
    | src => simp [isIn, cutF, ret]
    | out x => simp [isIn, cutF, ret]
    | inn x =>
      simp only [isIn, if_true, idx1, nameK, bnd_ok, cmp_notIn, mem, Option.map_some, tru_bl, cutF]
      by_cases q : Kn.out x ∈ ps.map (·.1)
      · simp only [q, decide_true, Bool.not_true, Bool.false_eq_true, if_false, if_true, Option.map_none, ret_eq, noEx_ok]
      · simp only [q, decide_false, Bool.not_false, if_true, if_false, idx1, bnd_ok, nameK, Option.map_some, ret_eq, noEx_ok]
  have keys : (ps.map pr).map (·.1) = (ps.map (·.1)).map kD := by
    rw [List.map_map, List.map_map]
    rfl
  have fm : (ps.map (·.1)).filterMap (fun k => (cutF (ps.map (·.1)) k).map D.str) = (cutL (ps.map (·.1))).map .str := by
    unfold cutL
    rw [List.map_filterMap]
  have x2 : exec (run Γ (d + 3)) (.asg (.var 5) (.lc false [6] (.var 6) (.keys 4) W_apart_chains_1 W_apart_chains_2)) [some de, some ds, some (.str goal), some (.ref U0.length), some (.dct 1 (ps.map pr)), none, none] V = some (.nx [some de, some ds, some (.str goal), some (.ref U0.length), some (.dct 1 (ps.map pr)), some (.lst ((cutL (ps.map (·.1))).map .str)), none] V) := by
    have hz : ¬ SZ < (fixS ((ps.map (·.1)).map kD)).get.length := by
      rw [fixS_len, List.length_map, List.length_map]
      omega
    have e5 := lcL_fm kD (fun k => (cutF (ps.map (·.1)) k).map D.str) (ps.map (·.1)) turn
    rw [fm] at e5
    simp only [exec, ev, evIt, List.getElem?_cons_zero, List.getElem?_cons_succ, if_true, keys, bnd_ok, if_neg hz, lcGo_fix, e5, fixS_fin, mkL, Bool.false_eq_true, if_false, bndS_ok, asgT, List.set_cons_succ, List.set_cons_zero]
  exact ⟨V, ks, arcs, us, cutL (ps.map (·.1)), .dct 1 (ps.map pr), W, best, cin, x1, x2⟩
theorem r_apart (T : HasWeb Γ) (hA : Γ "apart_chains" = some W_apart_chains) (G : Given names starts es) (d : Nat) (U0 : Store) :
    ∃ (cs : List (List Tx)) (cut : List Tx) (V : Store), Best es starts goal (cs.mergeSort leC) (cut.mergeSort leS) ∧ (∀ x ∈ cut, x ∈ names) ∧ V.take U0.length = U0 ∧
      run Γ (d + 4) "apart_chains" [.lst (edD es), .lst (starts.map .str), .str goal] U0 = some (.ok (.tup [.lst ((cs.mergeSort leC).map chD), .lst ((cut.mergeSort leS).map .str)]) V) := by
  have gf := G.few
  obtain ⟨V, ks, arcs, us, cut, came, W, best, cin, x1, x2⟩ := apart_core (goal := goal) T.core G d U0
  obtain ⟨a, b, c, la, lb, w, gc⟩ := W.w
  obtain ⟨cs, C, hc, e2⟩ := r_chains T.behind T.chains (d + 1) w W.net W.fl W.src (fun h t ht => W.sub _ (mem_LA.mp ht)) (fun k hk => knots_small G.sm k (W.kin k hk)) (fun x hx _ => in_knots (W.kin _ hx)) (by omega) (LA_nd W.nd) (by have := (W.llen .src).1; omega)
  refine ⟨cs, cut, V, (best cs C).perm (List.mergeSort_perm _ _) (List.mergeSort_perm _ _), cin, W.pre, ?_⟩
  have pls : plainL (cut.map D.str) 39 = true := plainL_strs fun x hx => G.sm x (cin x hx)
  have snl : snapL V (cut.map D.str) = some (cut.map D.str) := snapL_closed (closed_strs _)
  have e3 : prim .sorted1 false [.lst (cut.map .str)] V = some (.ok (.lst ((cut.mergeSort leS).map .str)) V) := by
    simp only [prim, asL, snl, pls, if_true, sort_strs, mkL, Bool.false_eq_true, if_false]
  have e2' : frz true V (run Γ (d + 3) ("Web" ++ "." ++ "chains") [.ref U0.length] V) = some (.ok (.lst ((cs.mergeSort leC).map chD)) V) := e2
  rw [run_at hA rfl]
  simp only [W_apart_chains, startR, List.map_cons, List.map_nil, List.replicate, List.cons_append, List.nil_append, Nat.reduceSub]
  rw [execs, x1, thn_nx, execs, x2, thn_nx]
  simp only [execs, exec, ev, evs, List.getElem?_cons_zero, List.getElem?_cons_succ, bnd_ok, w.obj, if_true, e2', recvOk, e3, bndS_ok, thn_rt, fin_rt]
end
end VI

/-! Lc: what the laws of the webs share. -/
namespace VI
theorem inL_strs {U : Store} (w : Tx) (ts : List Tx) (d : D) : inL U (.str w) d (ts.map .str) = some (decide (w ∈ ts)) := by
  have h : snaps U (.str w) d (ts.map .str) = some (.str w, ts.map .str) := by
    unfold snaps
    rw [if_pos]
    simp [flat]
  unfold inL
  rw [h]
  simp only [List.any_map]
  congr 1
  induction ts with
  | nil => simp
  | cons t ts ih =>
    rw [List.any_cons, ih (by unfold snaps; rw [if_pos]; simp [flat])]
    by_cases e : t = w
    · subst e; simp [pyeq]
    · have e' : ¬ w = t := fun z => e z.symm
      simp [pyeq, e, e']
/-- x in a list of texts -/
theorem mem_strs {U : Store} {d : D} {ts : List Tx} (x : Tx) (h : asL U d = some (ts.map .str)) : member U (.str x) d = some (decide (x ∈ ts)) := by
  have hq : asQ U d = some (ts.map .str) := by cases d <;> simp_all [asQ, asL]
  unfold member
  cases d with
  | str y => simp [asL] at h
  | _ => simp only [hq, inL_strs]
theorem mem_tup {U : Store} {ts : List Tx} (x : Tx) : member U (.str x) (.tup (ts.map .str)) = some (decide (x ∈ ts)) := by
  unfold member
  simp only [asQ, inL_strs]
theorem cut_map {α β : Type} (f : α → β) (l : List α) (lo hi : Option Int) : cut (l.map f) lo hi = (cut l lo hi).map f := by
  unfold cut
  rw [List.length_map, List.map_take, List.map_drop]
theorem cut_sub {α : Type} (l : List α) (lo hi : Option Int) : (cut l lo hi).Sublist l := by
  unfold cut
  exact (List.take_sublist _ _).trans (List.drop_sublist _ _)
theorem starts_in {most : Nat} {names : List Tx} {es : List (Tx × Tx)} {starts : List Tx} {goal : Tx} (w : WebOk most names es starts goal) : ∀ x ∈ starts, x ∈ names := by
  obtain ⟨st, hs, q⟩ := w.start
  intro x hx
  rcases q with rfl | rfl
  · exact hs.subset hx
  · rcases List.mem_append.mp hx with hx | hx
    · exact hs.subset hx
    · exact hs.subset (List.mem_of_mem_take hx)
theorem starts_len {most : Nat} {names : List Tx} {es : List (Tx × Tx)} {starts : List Tx} {goal : Tx} (w : WebOk most names es starts goal) : starts.length ≤ most + 1 := by
  obtain ⟨st, hs, q⟩ := w.start
  have h1 := hs.length_le
  have h2 := w.most
  rcases q with rfl | rfl
  · omega
  · simp only [List.length_append, List.length_take]
    omega
theorem given_of {most : Nat} {names : List Tx} {es : List (Tx × Tx)} {starts : List Tx} {goal : Tx} (w : WebOk most names es starts goal) (hm : most ≤ 10) : Given names starts es := by
  have h1 := w.most
  have h2 := w.few
  have h3 := starts_len w
  exact ⟨by omega, w.nm.sml, starts_in w, w.edge, by omega, by omega⟩
theorem Given.sub {names starts starts' : List Tx} {es es' : List (Tx × Tx)} (g : Given names starts es) (hs : starts'.Sublist starts) (he : es'.Sublist es) : Given names starts' es' := by
  have h1 := hs.length_le
  have h2 := he.length_le
  have h3 := g.fs
  have h4 := g.fe
  exact ⟨g.few, g.sm, fun x hx => g.start x (hs.subset hx), fun e h => g.edge e (he.subset h), by omega, by omega⟩
section
variable {es es' : List (Tx × Tx)} {starts starts' : List Tx} {goal : Tx} {cs cs' : List (List Tx)} {cut cut' : List Tx}
theorem Chain.mono {l : List Tx} (c : Chain es' starts' goal l) (he : ∀ e ∈ es', e ∈ es) (hs : ∀ s ∈ starts', s ∈ starts) : Chain es starts goal l :=
  ⟨c.ne, fun x hx => hs x (c.hd x hx), fun i a b ha hb => he _ (c.st i a b ha hb), fun i z hi hz => he _ (c.last i z hi hz), c.ng, c.nd⟩
theorem Best.few {cs' : List (List Tx)} (b : Best es starts goal cs cut) (h : ∀ c ∈ cs', Chain es starts goal c) (ap : Apart cs') : cs'.length ≤ cs.length := by
  rw [← b.size]
  refine apart_le ap fun c hc => ?_
  obtain ⟨x, h1, h2, _⟩ := (h c hc).met b.meets
  exact ⟨x, h1, h2⟩
theorem Best.mono (b : Best es starts goal cs cut) (b' : Best es' starts' goal cs' cut') (he : ∀ e ∈ es', e ∈ es) (hs : ∀ s ∈ starts', s ∈ starts) : cs'.length ≤ cs.length :=
  b.few (fun c hc => (b'.chain c hc).mono he hs) b'.apart
theorem Best.drop {name : Tx} (b : Best es starts goal cs cut) (b' : Best es' starts' goal cs' cut') (hn : name ≠ goal) (he : ∀ x y, (x, y) ∈ es → x ≠ name → y ≠ name → (x, y) ∈ es') (hs : ∀ s ∈ starts, s ≠ name → s ∈ starts') : cs.length ≤ cs'.length + 1 := by
  have key : ∀ x, Reach es starts goal (cut' ++ [name]) x → x ≠ name ∧ Reach es' starts' goal cut' x := by
    intro x r
    induction r with
    | start h1 h2 h3 =>
      simp only [List.mem_append, List.mem_singleton, not_or] at h3
      exact ⟨h3.2, .start (hs _ h1 h3.2) h2 h3.1⟩
    | step r e g c ih =>
      simp only [List.mem_append, List.mem_singleton, not_or] at c
      exact ⟨c.2, .step ih.2 (he _ _ e ih.1 c.2) g c.1⟩
  have nm : ¬ Meets es starts goal (cut' ++ [name]) := by
    rintro ⟨y, r, e⟩
    obtain ⟨h1, h2⟩ := key y r
    exact b'.meets ⟨y, h2, he _ _ e h1 (Ne.symm hn)⟩
  have := b.le nm
  have h2 := List.length_filter_le (fun x => decide (x ≠ goal)) (cut' ++ [name])
  rw [List.length_append, b'.size, List.length_singleton] at h2
  omega
end
theorem closedL_chD : ∀ cs : List (List Tx), closedL (cs.map chD) = true
  | [] => rfl
  | c :: r => by
    simp only [List.map_cons, closedL, Bool.and_eq_true]
    refine ⟨?_, closedL_chD r⟩
    simp only [chD, closed]
    exact closed_strs c
theorem frz_take {U V : Store} {d : D} (h : closed d = true) (ht : V.take U.length = U) : frz true U (some (.ok d V)) = some (.ok d U) := by
  unfold frz
  simp [ht, rs_closed h]
theorem r_apartF {Γ : Tab} (T : HasWeb Γ) (hA : Γ "apart_chains" = some W_apart_chains) {names starts : List Tx} {es : List (Tx × Tx)} {goal : Tx} (G : Given names starts es) (d : Nat) (U0 : Store) :
    ∃ (cs : List (List Tx)) (cut : List Tx), Best es starts goal (cs.mergeSort leC) (cut.mergeSort leS) ∧ (∀ x ∈ cut, x ∈ names) ∧
      frz true U0 (run Γ (d + 4) "apart_chains" [.lst (edD es), .lst (starts.map .str), .str goal] U0) = some (.ok (.tup [.lst ((cs.mergeSort leC).map chD), .lst ((cut.mergeSort leS).map .str)]) U0) := by
  obtain ⟨cs, cut, V, b, hn, ht, e⟩ := r_apart T hA G d U0
  refine ⟨cs, cut, b, hn, ?_⟩
  rw [e]
  refine frz_take ?_ ht
  simp only [closed, closedL, closedL_chD, closed_strs, Bool.and_self]
end VI

/-! Ma: meets_all and _law_led, for any table that has them. -/
namespace VI
/-- ten passes find all, of ten names -/
theorem passes_all10 {edges : List (Tx × Tx)} {starts names : List Tx} {goal : Tx} {cut come : List Tx} (hn : names.length ≤ 10) (hs : ∀ x ∈ starts, x ∈ names) (he : ∀ a b, (a, b) ∈ edges → b ∈ names) (nd : come.Nodup) (h0 : ∀ x ∈ starts, x ≠ goal → x ∉ cut → x ∈ come) (h1 : ∀ x ∈ come, Reach edges starts goal cut x) (x : Tx) :
    x ∈ passes edges goal cut 10 come ↔ Reach edges starts goal cut x := by
  constructor
  · exact passes_reach 10 come h1 x
  · intro h
    obtain ⟨k1, k2⟩ := passes_keep (edges := edges) (goal := goal) (cut := cut) 10 come
    have ne : 1 ≤ come.length := by
      have : ∃ s ∈ starts, s ≠ goal ∧ s ∉ cut := by
        clear h0 h1 k1 k2
        induction h with
        | start a b c => exact ⟨_, a, b, c⟩
        | step _ _ _ _ ih => exact ih
      obtain ⟨s, a, b, c⟩ := this
      exact List.length_pos_iff.mpr (List.ne_nil_of_mem (h0 s a b c))
    rcases passes_grow (edges := edges) (goal := goal) (cut := cut) 10 come with hc | hl
    · exact reach_closed (fun x hx g c => k1 x (h0 x hx g c)) hc h
    · have := nodup_le (k2 nd) (m := names) fun y hy => reach_names hs he (passes_reach 10 come h1 y hy)
      omega
def W_meets_all_1 : ISs := (.cons (.ifS (.andE (.cmp .ne (.var 5) (.var 2)) (.cmp .notIn (.var 5) (.var 3)))
 (.cons (.asgI (.var 4) (.var 5) (.cst (.bl true)))
 .nil)
 .nil)
 .nil)
def W_meets_all_2 : IE := (.cmp .lt (.var 7) (.prim .len false (.cons (.var 6) .nil)))
def W_meets_all_3 : ISs := (.cons (.ifS (.andE (.cmp .eq (.var 8) (.idx (.var 6) (.var 7))) (.cmp .eq (.var 9) (.var 2)))
 (.cons (.ret (.cst (.bl false)))
 .nil)
 .nil)
 (.cons (.ifS (.andE (.cmp .eq (.var 8) (.idx (.var 6) (.var 7))) (.andE (.cmp .notIn (.var 9) (.var 4)) (.cmp .notIn (.var 9) (.var 3))))
 (.cons (.asgI (.var 4) (.var 9) (.cst (.bl true)))
 (.cons (.expr (.prim .append false (.cons (.var 6) (.cons (.var 9) .nil))))
 .nil))
 .nil)
 .nil))
def W_meets_all_4 : ISs := (.cons (.forS (.tup [8, 9]) (.seq (.var 0)) W_meets_all_3)
 (.cons (.aug 7 .add (.cst (.int 1)))
 .nil))
def W_meets_all : Fn := ⟨4, 10,
 (.cons (.asg (.var 4) (.dnil true 0))
 (.cons (.forS (.var 5) (.seq (.var 1)) W_meets_all_1)
 (.cons (.asg (.var 6) (.prim .list1 true (.cons (.var 4) .nil)))
 (.cons (.asg (.var 7) (.cst (.int 0)))
 (.cons (.whileS W_meets_all_2 W_meets_all_4)
 (.cons (.ret (.cst (.bl true)))
 .nil))))))⟩
def W_led_1 : ISs := (.cons (.ifS (.andE (.cmp .ne (.var 5) (.var 2)) (.cmp .notIn (.var 5) (.var 3)))
 (.cons (.asgI (.var 4) (.var 5) (.cst (.bl true)))
 .nil)
 .nil)
 .nil)
def W_led_2 : ISs := (.cons (.ifS (.andE (.cmp .isIn (.var 7) (.var 4)) (.andE (.cmp .ne (.var 8) (.var 2)) (.cmp .notIn (.var 8) (.var 3))))
 (.cons (.asgI (.var 4) (.var 8) (.cst (.bl true)))
 .nil)
 .nil)
 .nil)
def W_led_3 : ISs := (.cons (.forS (.tup [7, 8]) (.seq (.var 0)) W_led_2)
 .nil)
def W_led_4 : IE := (.andE (.cmp .isIn (.var 7) (.var 4)) (.cmp .eq (.var 8) (.var 2)))
def W_led : Fn := ⟨4, 9,
 (.cons (.asg (.var 4) (.dnil true 0))
 (.cons (.forS (.var 5) (.seq (.var 1)) W_led_1)
 (.cons (.forS (.var 6) (.range1 (.cst (.int 10))) W_led_3)
 (.cons (.ret (.prim .any1 false (.cons (.lc false [7, 8] (.tup [7, 8]) (.seq (.var 0)) yes W_led_4) .nil)))
 .nil))))⟩
/-! ### the store's last object -/
theorem get_last {U : Store} {o : MO} : (U ++ [o])[U.length]? = some o := by simp
theorem set_last {U : Store} {o o' : MO} : updS (U ++ [o]) U.length o' = U ++ [o'] := by simp [updS]
theorem asL_app {U V : Store} {d : D} {xs : List D} (h : asL U d = some xs) : asL (U ++ V) d = some xs := by
  cases d <;> simp_all [asL]
  split at h
  · rename_i ys hy
    rw [List.getElem?_append_left (List.getElem?_eq_some_iff.mp hy).1, hy]
    exact h
  · cases h

/-- x in a dict of texts -/
theorem mem_true {U : Store} {n : Nat} {l : List Tx} (x : Tx) (h : U[n]? = some (.dct 0 (trueD l))) : member U (.str x) (.ref n) = some (decide (x ∈ l)) := by
  simp only [member, asQ, asL, h, hasD, asD, keyFor, flatK, if_true, look_true]
/-! ### led -/
theorem led_start {C : Cal} {U : Store} {es starts cut : List Tx} {de ds dc : D} {goal x : Tx} {l : List Tx} {o1 o2 o3 o4 : Option D} (hc : asL U dc = some (cut.map .str)) (hl : l.length < SZ) :
    turnF (.var 5) (execs C W_led_1) (.str x) [some de, some ds, some (.str goal), some dc, some (.ref U.length), o1, o2, o3, o4] (U ++ [.dct 0 (trueD l)]) =
    some (.nx [some de, some ds, some (.str goal), some dc, some (.ref U.length), some (.str x), o2, o3, o4] (U ++ [.dct 0 (trueD (if x ≠ goal ∧ x ∉ cut then put1 l x else l))])) := by
  have hc' := asL_app (V := [.dct 0 (trueD l)]) hc
  have hm := mem_strs x hc'
  have hz : (trueD l).length < SZ := by simpa [trueD] using hl
  simp only [turnF, asgT, W_led_1, execs, exec, evB, ev]
  by_cases h1 : x = goal
  · subst h1
    simp [cmpop, eqv, scalS, pyeq, tru, truth]
  · by_cases h2 : x ∈ cut
    · simp [cmpop, eqv, scalS, pyeq, tru, truth, h1, hm, h2]
    · simp [cmpop, eqv, scalS, pyeq, tru, truth, h1, hm, h2, execs, exec, ev, setIx, get_last, keyFor, flatK, hz, put_true, set_last]
theorem led_edge {C : Cal} {U : Store} {cut : List Tx} {de ds dc : D} {goal : Tx} {e : Tx × Tx} {l : List Tx} {o1 o2 o3 o4 : Option D} (hc : asL U dc = some (cut.map .str)) (hl : l.length < SZ) :
    turnF (.tup [7, 8]) (execs C W_led_2) (eD e) [some de, some ds, some (.str goal), some dc, some (.ref U.length), o1, o2, o3, o4] (U ++ [.dct 0 (trueD l)]) =
    some (.nx [some de, some ds, some (.str goal), some dc, some (.ref U.length), o1, o2, some (.str e.1), some (.str e.2)] (U ++ [.dct 0 (trueD (pass1 goal cut l e))])) := by
  have hc' := asL_app (V := [.dct 0 (trueD l)]) hc
  have hm := mem_strs e.2 hc'
  have hd := mem_true (U := U ++ [.dct 0 (trueD l)]) (n := U.length) e.1 get_last
  have hz : (trueD l).length < SZ := by simpa [trueD] using hl
  simp only [turnF, asgT, W_led_2, execs, exec, evB, ev, eD, asQ, setAll]
  unfold pass1
  by_cases h0 : e.1 ∈ l
  · by_cases h1 : e.2 = goal
    · simp [cmpop, eqv, scalS, pyeq, tru, truth, hd, h0, h1]
    · by_cases h2 : e.2 ∈ cut
      · simp [cmpop, eqv, scalS, pyeq, tru, truth, hd, h0, h1, hm, h2]
      · simp [cmpop, eqv, scalS, pyeq, tru, truth, hd, h0, h1, hm, h2, execs, exec, ev, setIx, get_last, keyFor, flatK, hz, put_true, set_last]
  · simp [cmpop, eqv, scalS, pyeq, tru, truth, hd, h0]

/-- few names, each once -/
def Few (names l : List Tx) : Prop := l.Nodup ∧ ∀ x ∈ l, x ∈ names
theorem Few.len {names l : List Tx} (h : Few names l) (hn : names.length ≤ 10) : l.length < SZ := Nat.lt_of_le_of_lt (Nat.le_trans (nodup_le h.1 h.2) hn) (by decide)
theorem Few.put {names l : List Tx} {x : Tx} (h : Few names l) (hx : x ∈ names) : Few names (put1 l x) := ⟨put1_nodup h.1, fun y hy => by
  rcases put1_mem.mp hy with hy | rfl
  · exact h.2 y hy
  · exact hx⟩
def st1 (goal : Tx) (cut : List Tx) (l : List Tx) (x : Tx) : List Tx := if x ≠ goal ∧ x ∉ cut then put1 l x else l
theorem Few.st1 {names l cut : List Tx} {goal x : Tx} (h : Few names l) (hx : x ∈ names) : Few names (st1 goal cut l x) := by
  unfold VI.st1
  split
  · exact h.put hx
  · exact h
theorem Few.pass1 {names l cut : List Tx} {goal : Tx} {e : Tx × Tx} (h : Few names l) (hx : e.2 ∈ names) : Few names (pass1 goal cut l e) := by
  unfold VI.pass1
  split
  · exact h.put hx
  · exact h
theorem Few.foldl {α : Type} {names : List Tx} {f : List Tx → α → List Tx} (hf : ∀ l x, Few names l → Few names (f l x)) : ∀ (xs : List α) (l : List Tx), Few names l → Few names (xs.foldl f l)
  | [], l, h => h
  | x :: r, l, h => Few.foldl hf r _ (hf l x h)
theorem led_starts {C : Cal} {U : Store} {names cut : List Tx} {de ds dc : D} {goal : Tx} {o2 o3 o4 : Option D} (hc : asL U dc = some (cut.map .str)) (hn : names.length ≤ 10) : ∀ (xs : List Tx) (l : List Tx) (o1 : Option D), (∀ x ∈ xs, x ∈ names) → Few names l →
    ∃ o1', forL (turnF (.var 5) (execs C W_led_1)) (xs.map .str) [some de, some ds, some (.str goal), some dc, some (.ref U.length), o1, o2, o3, o4] (U ++ [.dct 0 (trueD l)]) =
    some (.nx [some de, some ds, some (.str goal), some dc, some (.ref U.length), o1', o2, o3, o4] (U ++ [.dct 0 (trueD (xs.foldl (st1 goal cut) l))])) ∧ Few names (xs.foldl (st1 goal cut) l)
  | [], l, o1, hx, hf => ⟨o1, rfl, hf⟩
  | x :: r, l, o1, hx, hf => by
    have hf' : Few names (st1 goal cut l x) := hf.st1 (hx x (by simp))
    obtain ⟨o1', e, h⟩ := led_starts (C := C) (U := U) (names := names) (cut := cut) (de := de) (ds := ds) (dc := dc) (goal := goal) (o2 := o2) (o3 := o3) (o4 := o4) hc hn r (st1 goal cut l x) (some (.str x)) (fun y hy => hx y (by simp [hy])) hf'
    refine ⟨o1', ?_, h⟩
    rw [List.map_cons, forL, led_start (es := []) (starts := []) hc (hf.len hn), turnEnd_nx]
    exact e
theorem led_pass {C : Cal} {U : Store} {names cut : List Tx} {de ds dc : D} {goal : Tx} {o1 o2 : Option D} (hc : asL U dc = some (cut.map .str)) (hn : names.length ≤ 10) : ∀ (es : List (Tx × Tx)) (l : List Tx) (o3 o4 : Option D), (∀ e ∈ es, e.2 ∈ names) → Few names l →
    ∃ o3' o4', forL (turnF (.tup [7, 8]) (execs C W_led_2)) (edD es) [some de, some ds, some (.str goal), some dc, some (.ref U.length), o1, o2, o3, o4] (U ++ [.dct 0 (trueD l)]) =
    some (.nx [some de, some ds, some (.str goal), some dc, some (.ref U.length), o1, o2, o3', o4'] (U ++ [.dct 0 (trueD (pass es goal cut l))])) ∧ Few names (pass es goal cut l)
  | [], l, o3, o4, hx, hf => ⟨o3, o4, rfl, hf⟩
  | x :: r, l, o3, o4, hx, hf => by
    have hf' : Few names (VI.pass1 goal cut l x) := hf.pass1 (hx x (by simp))
    obtain ⟨o3', o4', e, h⟩ := led_pass (C := C) (U := U) (names := names) (cut := cut) (de := de) (ds := ds) (dc := dc) (goal := goal) (o1 := o1) (o2 := o2) hc hn r (VI.pass1 goal cut l x) (some (.str x.1)) (some (.str x.2)) (fun y hy => hx y (by simp [hy])) hf'
    refine ⟨o3', o4', ?_, h⟩
    show forL _ (eD x :: edD r) _ _ = _
    rw [forL, led_edge hc (hf.len hn), turnEnd_nx]
    exact e
theorem led_passes {C : Cal} {U : Store} {names cut : List Tx} {es : List (Tx × Tx)} {ds dc : D} {goal : Tx} {o1 : Option D} (hc : asL U dc = some (cut.map .str)) (hn : names.length ≤ 10) (he : ∀ e ∈ es, e.2 ∈ names) : ∀ (n : Nat) (xs : List D) (l : List Tx) (o2 o3 o4 : Option D), xs.length = n → Few names l →
    ∃ o2' o3' o4', forL (turnF (.var 6) (execs C W_led_3)) xs [some (.lst (edD es)), some ds, some (.str goal), some dc, some (.ref U.length), o1, o2, o3, o4] (U ++ [.dct 0 (trueD l)]) =
    some (.nx [some (.lst (edD es)), some ds, some (.str goal), some dc, some (.ref U.length), o1, o2', o3', o4'] (U ++ [.dct 0 (trueD (passes es goal cut n l))]))
  | 0, [], l, o2, o3, o4, _, hf => ⟨o2, o3, o4, rfl⟩
  | n + 1, x :: r, l, o2, o3, o4, hl, hf => by
    obtain ⟨o3', o4', e, h⟩ := led_pass (C := C) (U := U) (names := names) (cut := cut) (de := .lst (edD es)) (ds := ds) (dc := dc) (goal := goal) (o1 := o1) (o2 := some x) hc hn es l o3 o4 he hf
    obtain ⟨p2, p3, p4, e2⟩ := led_passes (C := C) (U := U) (names := names) (cut := cut) (es := es) (ds := ds) (dc := dc) (goal := goal) (o1 := o1) hc hn he n r (pass es goal cut l) (some x) o3' o4' (by simpa using hl) h
    refine ⟨p2, p3, p4, ?_⟩
    rw [forL]
    have t : turnF (.var 6) (execs C W_led_3) x [some (.lst (edD es)), some ds, some (.str goal), some dc, some (.ref U.length), o1, o2, o3, o4] (U ++ [.dct 0 (trueD l)]) = some (.nx [some (.lst (edD es)), some ds, some (.str goal), some dc, some (.ref U.length), o1, some x, o3', o4'] (U ++ [.dct 0 (trueD (pass es goal cut l))])) := by
      simp only [turnF, asgT, W_led_3, execs, exec, evIt, ev]
      simp [srcOf, forGo_fix, e]
    rw [t, turnEnd_nx]
    exact e2
/-- what led says -/
noncomputable def MeetsB (es : List (Tx × Tx)) (starts : List Tx) (goal : Tx) (cut : List Tx) : Bool := @decide (Meets es starts goal cut) (Classical.propDecidable _)
theorem meets_iff {es : List (Tx × Tx)} {starts : List Tx} {goal : Tx} {cut come : List Tx} (h : ∀ x, x ∈ come ↔ Reach es starts goal cut x) : (es.any fun e => decide (e.1 ∈ come) && decide (e.2 = goal)) = MeetsB es starts goal cut := by
  unfold MeetsB
  by_cases hm : Meets es starts goal cut
  · rw [@decide_eq_true _ (Classical.propDecidable _) hm]
    obtain ⟨y, hy, he⟩ := hm
    rw [List.any_eq_true]
    exact ⟨(y, goal), he, by simp [(h y).mpr hy]⟩
  · rw [@decide_eq_false _ (Classical.propDecidable _) hm]
    rw [List.any_eq_false]
    intro e he hb
    simp only [Bool.and_eq_true, decide_eq_true_eq] at hb
    exact hm ⟨e.1, (h _).mp hb.1, by rw [← hb.2]; exact he⟩
theorem st_facts {names cut : List Tx} {goal : Tx} : ∀ (xs l : List Tx), (∀ x ∈ l, x ∈ xs.foldl (st1 goal cut) l) ∧ (∀ x ∈ xs, x ≠ goal → x ∉ cut → x ∈ xs.foldl (st1 goal cut) l) ∧ ∀ x ∈ xs.foldl (st1 goal cut) l, x ∈ l ∨ (x ∈ xs ∧ x ≠ goal ∧ x ∉ cut)
  | [], l => ⟨fun x h => h, ⟨fun x h => absurd h (by simp), fun x h => Or.inl h⟩⟩
  | y :: r, l => by
    obtain ⟨h1, h2, h3⟩ := st_facts (names := names) (goal := goal) (cut := cut) r (st1 goal cut l y)
    refine ⟨fun x hx => h1 x ?_, fun x hx g c => ?_, fun x hx => ?_⟩
    · unfold st1
      split
      · exact put1_mem.mpr (.inl hx)
      · exact hx
    · rcases List.mem_cons.mp hx with rfl | hx
      · refine h1 x ?_
        unfold st1
        rw [if_pos ⟨g, c⟩]
        exact put1_mem.mpr (.inr rfl)
      · exact h2 x hx g c
    · rcases h3 x hx with hx | hx
      · unfold st1 at hx
        split at hx
        · rename_i hc
          rcases put1_mem.mp hx with hx | rfl
          · exact .inl hx
          · exact .inr ⟨by simp, hc⟩
        · exact .inl hx
      · exact .inr ⟨by simp [hx.1], hx.2⟩
/-- the texts' setting -/
structure MWeb (names : List Tx) (es : List (Tx × Tx)) (starts : List Tx) : Prop where
  few : names.length ≤ 10
  edge : ∀ e ∈ es, e.2 ∈ names
  start : ∀ x ∈ starts, x ∈ names
  size : es.length ≤ 1000
theorem r_led {Γ : Tab} (hΓ : Γ "_law_led" = some W_led) (k : Nat) {U : Store} {names : List Tx} {es : List (Tx × Tx)} {starts cut : List Tx} {goal : Tx} {dc : D} (w : MWeb names es starts) (hc : asL U dc = some (cut.map .str)) :
    ∃ V, run Γ (k + 1) "_law_led" [.lst (edD es), .lst (starts.map .str), .str goal, dc] U = some (.ok (.bl (MeetsB es starts goal cut)) (U ++ V)) := by
  rw [run_at hΓ rfl]
  obtain ⟨o1, e1, f1⟩ := led_starts (C := run Γ k) (U := U) (names := names) (cut := cut) (de := .lst (edD es)) (ds := .lst (starts.map .str)) (dc := dc) (goal := goal) (o2 := none) (o3 := none) (o4 := none) hc w.few starts [] none w.start ⟨List.nodup_nil, fun _ h => by cases h⟩
  obtain ⟨o2, o3, o4, e2⟩ := led_passes (C := run Γ k) (U := U) (names := names) (cut := cut) (es := es) (ds := .lst (starts.map .str)) (dc := dc) (goal := goal) (o1 := o1) hc w.few w.edge 10 (rangeL 0 10) (starts.foldl (st1 goal cut) []) none none none (by simp [rangeL]) f1
  obtain ⟨g1, g2, g3⟩ := st_facts (names := names) (goal := goal) (cut := cut) starts []
  have hr : ∀ x, x ∈ passes es goal cut 10 (starts.foldl (st1 goal cut) []) ↔ Reach es starts goal cut x := passes_all10 w.few w.start (fun a b h => w.edge (a, b) h) f1.1 g2 fun x hx => by
    rcases g3 x hx with h | h
    · cases h
    · exact .start h.1 h.2.1 h.2.2
  generalize passes es goal cut 10 (starts.foldl (st1 goal cut) []) = come at e2 hr
  have hm := meets_iff hr
  rw [show trueD [] = [] from rfl] at e1
  have hl : lcL (turnL (.tup [7, 8]) (evB (run Γ k) yes) (ev (run Γ k) W_led_4) (wipe [some (.lst (edD es)), some (.lst (starts.map .str)), some (.str goal), some dc, some (.ref U.length), o1, o2, o3, o4] [7, 8])) (edD es) (U ++ [.dct 0 (trueD come)]) = some (.ok (es.map fun e => .bl (decide (e.1 ∈ come) && decide (e.2 = goal))) (U ++ [.dct 0 (trueD come)])) := by
    refine lcL_maps eD _ es fun e he => ?_
    have hd := mem_true (U := U ++ [.dct 0 (trueD come)]) (n := U.length) e.1 get_last
    simp only [turnL, asgT, eD, asQ, setAll, W_led_4, wipe]
    by_cases h0 : e.1 ∈ come
    · simp [ev, cmpop, hd, h0, eqv, scalS, pyeq]
    · simp [ev, cmpop, hd, h0]
  have hz : ¬ SZ < es.length := by
    have := w.size
    have : (1000 : Nat) ≤ SZ := by decide
    omega
  have hz2 : (edD es).length = es.length := by simp [edD]
  refine ⟨[.dct 0 (trueD come)], ?_⟩
  simp only [W_led, startR, execs, exec, evIt, ev, evs]
  simp [mkD, asgT, execs, exec, ev, evs, evIt, srcOf, forGo_fix, e1, small, e2]
  have hz3 : (fixS (edD es)).get.length = es.length := by simp [fixS, edD]
  have hz4 : ¬ SZ < (edD es).length := by rw [hz2]; exact hz
  simp [lcGo_fix, hl, hz4, mkL, recvOk, prim, asL, bools_map, ← hm]
/-! ### meets_all -/
theorem ma_start {C : Cal} {U : Store} {cut : List Tx} {de ds dc : D} {goal x : Tx} {l : List Tx} {o1 o2 o3 o4 o5 : Option D} (hc : asL U dc = some (cut.map .str)) (hl : l.length < SZ) :
    turnF (.var 5) (execs C W_meets_all_1) (.str x) [some de, some ds, some (.str goal), some dc, some (.ref U.length), o1, o2, o3, o4, o5] (U ++ [.dct 0 (trueD l)]) =
    some (.nx [some de, some ds, some (.str goal), some dc, some (.ref U.length), some (.str x), o2, o3, o4, o5] (U ++ [.dct 0 (trueD (st1 goal cut l x))])) := by
  have hc' := asL_app (V := [.dct 0 (trueD l)]) hc
  have hm := mem_strs x hc'
  have hz : (trueD l).length < SZ := by simpa [trueD] using hl
  unfold st1
  simp only [turnF, asgT, W_meets_all_1, execs, exec, evB, ev]
  by_cases h1 : x = goal
  · subst h1
    simp [cmpop, eqv, scalS, pyeq, tru, truth]
  · by_cases h2 : x ∈ cut
    · simp [cmpop, eqv, scalS, pyeq, tru, truth, h1, hm, h2]
    · simp [cmpop, eqv, scalS, pyeq, tru, truth, h1, hm, h2, execs, exec, ev, setIx, get_last, keyFor, flatK, hz, put_true, set_last]
def go1 (y : Tx) (cut : List Tx) (l : List Tx) (e : Tx × Tx) : List Tx := if e.1 = y ∧ e.2 ∉ l ∧ e.2 ∉ cut then l ++ [e.2] else l
theorem ma_edge0 {C : Cal} {U : Store} {cut : List Tx} {dc : D} {goal y ea eb : Tx} {l : List Tx} {i : Nat} {ρ : Rho} (hc : asL U dc = some (cut.map .str)) (hl : l.length < SZ) (hy : l[i]? = some y)
    (h2 : ρ[2]? = some (some (.str goal))) (h3 : ρ[3]? = some (some dc)) (h4 : ρ[4]? = some (some (.ref U.length))) (h6 : ρ[6]? = some (some (.ref (U.length + 1)))) (h7 : ρ[7]? = some (some (.int i))) (h8 : ρ[8]? = some (some (.str ea))) (h9 : ρ[9]? = some (some (.str eb))) :
    execs C W_meets_all_3 ρ (U ++ [.dct 0 (trueD l), .lst (l.map .str)]) =
    if ea = y ∧ eb = goal then some (.rt (.bl false) (U ++ [.dct 0 (trueD l), .lst (l.map .str)])) else
    some (.nx ρ (U ++ [.dct 0 (trueD (go1 y cut l (ea, eb))), .lst ((go1 y cut l (ea, eb)).map .str)])) := by
  have hc' := asL_app (V := [.dct 0 (trueD l), .lst (l.map .str)]) hc
  have hm := mem_strs eb hc'
  have hd := mem_true (U := U ++ [.dct 0 (trueD l), .lst (l.map .str)]) (n := U.length) eb get_pen
  have hz : (trueD l).length < SZ := by simpa [trueD] using hl
  have hz2 : (l.map D.str).length < SZ := by simpa using hl
  have hi : i < l.length := (List.getElem?_eq_some_iff.mp hy).1
  have hix : VI.atI (l.map D.str) (i : Int) = some (.str y) := by
    unfold atI ixN
    rw [if_pos (by omega), if_pos (by simp; omega)]
    simp [hy]
  have hidx : index1 (.ref (U.length + 1)) (.int i) (U ++ [.dct 0 (trueD l), .lst (l.map .str)]) = some (.ok (.str y) (U ++ [.dct 0 (trueD l), .lst (l.map .str)])) := by
    simp [index1, asQ, asL, get_ult, hix]
  unfold go1
  simp only [W_meets_all_3, execs, exec, evB, ev, h2, h3, h4, h6, h7, h8, h9, bnd_ok, hidx]
  by_cases h1 : ea = y
  · subst h1
    by_cases hg : eb = goal
    · subst hg
      simp [h2, h3, h4, h6, h7, h8, h9, hidx, execs, exec, evB, ev, cmp_eq_str, cmp_ne_str, cmp_in, cmp_notIn, tru_bl]
    · by_cases hin : eb ∈ l
      · simp [h2, h3, h4, h6, h7, h8, h9, hidx, execs, exec, evB, ev, cmp_eq_str, cmp_ne_str, cmp_in, cmp_notIn, tru_bl, hg, hd, hin]
      · by_cases hcu : eb ∈ cut
        · simp [h2, h3, h4, h6, h7, h8, h9, hidx, execs, exec, evB, ev, cmp_eq_str, cmp_ne_str, cmp_in, cmp_notIn, tru_bl, hg, hd, hin, hm, hcu]
        · have hp : putD (trueD l) (.str eb) (.bl true) = trueD (l ++ [eb]) := by
            rw [put_true]
            unfold put1
            rw [if_neg hin]
          simp [h2, h3, h4, h6, h7, h8, h9, hidx, execs, exec, evB, ev, cmp_eq_str, cmp_ne_str, cmp_in, cmp_notIn, tru_bl, hg, hd, hin, hm, hcu, setIx, get_pen, keyFor, flatK, hz, hp, set_pen, recvOk, asL, get_ult, prim, hz2, hl, set_ult, evs]
  · simp [h2, h3, h4, h6, h7, h8, h9, hidx, execs, exec, evB, ev, cmp_eq_str, cmp_ne_str, cmp_in, cmp_notIn, tru_bl, h1]
theorem ma_edge {C : Cal} {U : Store} {cut : List Tx} {de ds dc : D} {goal y : Tx} {e : Tx × Tx} {l : List Tx} {i : Nat} {o1 o4 o5 : Option D} (hc : asL U dc = some (cut.map .str)) (hl : l.length < SZ) (hy : l[i]? = some y) :
    turnF (.tup [8, 9]) (execs C W_meets_all_3) (eD e) [some de, some ds, some (.str goal), some dc, some (.ref U.length), o1, some (.ref (U.length + 1)), some (.int i), o4, o5] (U ++ [.dct 0 (trueD l), .lst (l.map .str)]) =
    if e.1 = y ∧ e.2 = goal then some (.rt (.bl false) (U ++ [.dct 0 (trueD l), .lst (l.map .str)])) else
    some (.nx [some de, some ds, some (.str goal), some dc, some (.ref U.length), o1, some (.ref (U.length + 1)), some (.int i), some (.str e.1), some (.str e.2)] (U ++ [.dct 0 (trueD (go1 y cut l e)), .lst ((go1 y cut l e).map .str)])) :=
  ma_edge0 (ea := e.1) (eb := e.2) hc hl hy rfl rfl rfl rfl rfl rfl rfl
theorem go1_pre {y : Tx} {cut l : List Tx} {e : Tx × Tx} : l <+: go1 y cut l e := by
  unfold go1
  split
  · exact List.prefix_append _ _
  · exact List.prefix_rfl
theorem gof_pre {y : Tx} {cut : List Tx} : ∀ (es : List (Tx × Tx)) (l : List Tx), l <+: es.foldl (go1 y cut) l
  | [], l => List.prefix_rfl
  | e :: r, l => go1_pre.trans (gof_pre r (go1 y cut l e))
theorem gof_mem {y : Tx} {cut : List Tx} {x : Tx} : ∀ (es : List (Tx × Tx)) (l : List Tx), x ∈ es.foldl (go1 y cut) l → x ∈ l ∨ ((y, x) ∈ es ∧ x ∉ cut)
  | [], l, h => .inl h
  | e :: r, l, h => by
    rcases gof_mem r (go1 y cut l e) h with h | h
    · unfold go1 at h
      split at h
      · rename_i hc
        rcases List.mem_append.mp h with h | h
        · exact .inl h
        · simp only [List.mem_singleton] at h
          subst h
          refine .inr ⟨?_, hc.2.2⟩
          obtain ⟨a, b⟩ := e
          have : a = y := hc.1
          subst this
          simp
      · exact .inl h
    · exact .inr ⟨by simp [h.1], h.2⟩
theorem gof_all {y : Tx} {cut : List Tx} {x : Tx} : ∀ (es : List (Tx × Tx)) (l : List Tx), (y, x) ∈ es → x ∉ cut → x ∈ es.foldl (go1 y cut) l
  | [], l, h, _ => by cases h
  | e :: r, l, h, hc => by
    rcases List.mem_cons.mp h with h | h
    · subst h
      refine (gof_pre r _).subset ?_
      unfold go1
      by_cases hx : x ∈ l
      · split
        · simp [hx]
        · exact hx
      · rw [if_pos ⟨rfl, hx, hc⟩]
        simp
    · exact gof_all r _ h hc
theorem Few.go1 {names l cut : List Tx} {y : Tx} {e : Tx × Tx} (h : Few names l) (hx : e.2 ∈ names) : Few names (VI.go1 y cut l e) := by
  unfold VI.go1
  split
  · rename_i hc
    refine ⟨?_, fun x hxx => ?_⟩
    · rw [List.nodup_append]
      refine ⟨h.1, by simp, fun a ha b hb => ?_⟩
      simp only [List.mem_singleton] at hb
      subst hb
      exact fun q => hc.2.1 (q ▸ ha)
    · rcases List.mem_append.mp hxx with q | q
      · exact h.2 x q
      · simp only [List.mem_singleton] at q
        subst q
        exact hx
  · exact h
theorem pre_get {l m : List Tx} {i : Nat} {y : Tx} (h : l <+: m) (e : l[i]? = some y) : m[i]? = some y := by
  obtain ⟨t, rfl⟩ := h
  rw [List.getElem?_append_left (List.getElem?_eq_some_iff.mp e).1, e]
theorem ma_edges {C : Cal} {U : Store} {names cut : List Tx} {de ds dc : D} {goal y : Tx} {i : Nat} {o1 : Option D} (hc : asL U dc = some (cut.map .str)) (hn : names.length ≤ 10) : ∀ (es : List (Tx × Tx)) (l : List Tx) (o4 o5 : Option D), (∀ e ∈ es, e.2 ∈ names) → Few names l → l[i]? = some y →
    ((y, goal) ∈ es ∧ ∃ V, forL (turnF (.tup [8, 9]) (execs C W_meets_all_3)) (edD es) [some de, some ds, some (.str goal), some dc, some (.ref U.length), o1, some (.ref (U.length + 1)), some (.int i), o4, o5] (U ++ [.dct 0 (trueD l), .lst (l.map .str)]) = some (.rt (.bl false) (U ++ V))) ∨
    ((y, goal) ∉ es ∧ Few names (es.foldl (go1 y cut) l) ∧ ∃ o4' o5', forL (turnF (.tup [8, 9]) (execs C W_meets_all_3)) (edD es) [some de, some ds, some (.str goal), some dc, some (.ref U.length), o1, some (.ref (U.length + 1)), some (.int i), o4, o5] (U ++ [.dct 0 (trueD l), .lst (l.map .str)]) =
      some (.nx [some de, some ds, some (.str goal), some dc, some (.ref U.length), o1, some (.ref (U.length + 1)), some (.int i), o4', o5'] (U ++ [.dct 0 (trueD (es.foldl (go1 y cut) l)), .lst ((es.foldl (go1 y cut) l).map .str)])))
  | [], l, o4, o5, _, hf, _ => .inr ⟨by simp, hf, o4, o5, rfl⟩
  | e :: r, l, o4, o5, hx, hf, hy => by
    have st := ma_edge (C := C) (U := U) (de := de) (ds := ds) (o1 := o1) (o4 := o4) (o5 := o5) (goal := goal) (e := e) hc (hf.len hn) hy
    show _ ∨ _
    have un : ∀ ρ V, forL (turnF (.tup [8, 9]) (execs C W_meets_all_3)) (edD (e :: r)) ρ V = turnEnd (turnF (.tup [8, 9]) (execs C W_meets_all_3) (eD e) ρ V) fun ρ' U' => forL (turnF (.tup [8, 9]) (execs C W_meets_all_3)) (edD r) ρ' U' := fun ρ V => rfl
    rw [un, st]
    by_cases q : e.1 = y ∧ e.2 = goal
    · rw [if_pos q, turnEnd_rt]
      refine .inl ⟨?_, _, rfl⟩
      obtain ⟨a, b⟩ := e
      have h1 : a = y := q.1
      have h2 : b = goal := q.2
      subst h1 h2
      simp
    · rw [if_neg q, turnEnd_nx]
      have hf' := hf.go1 (y := y) (cut := cut) (hx e (by simp))
      have hy' := pre_get (go1_pre (y := y) (cut := cut) (e := e)) hy
      have hne : (y, goal) ≠ e := fun z => q (by subst z; exact ⟨rfl, rfl⟩)
      rcases ma_edges hc hn r (go1 y cut l e) (some (.str e.1)) (some (.str e.2)) (fun z hz => hx z (by simp [hz])) hf' hy' with ⟨h1, h2⟩ | ⟨h1, h2, h3⟩
      · exact .inl ⟨by simp [h1], h2⟩
      · exact .inr ⟨by
          intro z
          rcases List.mem_cons.mp z with z | z
          · exact hne z
          · exact h1 z, h2, h3⟩
theorem ma_starts {C : Cal} {U : Store} {names cut : List Tx} {de ds dc : D} {goal : Tx} {o2 o3 o4 o5 : Option D} (hc : asL U dc = some (cut.map .str)) (hn : names.length ≤ 10) : ∀ (xs : List Tx) (l : List Tx) (o1 : Option D), (∀ x ∈ xs, x ∈ names) → Few names l →
    ∃ o1', forL (turnF (.var 5) (execs C W_meets_all_1)) (xs.map .str) [some de, some ds, some (.str goal), some dc, some (.ref U.length), o1, o2, o3, o4, o5] (U ++ [.dct 0 (trueD l)]) =
    some (.nx [some de, some ds, some (.str goal), some dc, some (.ref U.length), o1', o2, o3, o4, o5] (U ++ [.dct 0 (trueD (xs.foldl (st1 goal cut) l))])) ∧ Few names (xs.foldl (st1 goal cut) l)
  | [], l, o1, hx, hf => ⟨o1, rfl, hf⟩
  | x :: r, l, o1, hx, hf => by
    have hf' : Few names (st1 goal cut l x) := hf.st1 (hx x (by simp))
    obtain ⟨o1', e, h⟩ := ma_starts (C := C) (U := U) (names := names) (cut := cut) (de := de) (ds := ds) (dc := dc) (goal := goal) (o2 := o2) (o3 := o3) (o4 := o4) (o5 := o5) hc hn r (st1 goal cut l x) (some (.str x)) (fun y hy => hx y (by simp [hy])) hf'
    refine ⟨o1', ?_, h⟩
    rw [List.map_cons, forL, ma_start hc (hf.len hn), turnEnd_nx]
    exact e
/-- the loop's state: the names come to, those before i gone on from -/
structure Came (names : List Tx) (es : List (Tx × Tx)) (starts : List Tx) (goal : Tx) (cut l : List Tx) (i : Nat) : Prop where
  few : Few names l
  st : ∀ x ∈ starts, x ≠ goal → x ∉ cut → x ∈ l
  reach : ∀ x ∈ l, Reach es starts goal cut x
  le : i ≤ l.length
  done : ∀ j, j < i → ∀ y, l[j]? = some y → (y, goal) ∉ es ∧ ∀ x, (y, x) ∈ es → x ∉ cut → x ∈ l
theorem Came.next {names : List Tx} {es : List (Tx × Tx)} {starts : List Tx} {goal : Tx} {cut l : List Tx} {i : Nat} {y : Tx} (c : Came names es starts goal cut l i) (hy : l[i]? = some y) (hg : (y, goal) ∉ es) (hf : Few names (es.foldl (go1 y cut) l)) : Came names es starts goal cut (es.foldl (go1 y cut) l) (i + 1) := by
  have hp := gof_pre (y := y) (cut := cut) es l
  have hi : i < l.length := (List.getElem?_eq_some_iff.mp hy).1
  refine ⟨hf, fun x h1 h2 h3 => hp.subset (c.st x h1 h2 h3), fun x hx => ?_, Nat.le_trans hi hp.length_le, fun j hj z hz => ?_⟩
  · rcases gof_mem es l hx with h | h
    · exact c.reach x h
    · exact .step (c.reach y (List.mem_of_getElem? hy)) h.1 (fun e => hg (e ▸ h.1)) h.2
  · by_cases e : j = i
    · subst e
      rw [pre_get hp hy] at hz
      cases hz
      exact ⟨hg, fun x hx hc => gof_all es l hx hc⟩
    · have hz' : l[j]? = some z := by
        obtain ⟨t, ht⟩ := hp
        rw [← ht, List.getElem?_append_left (by omega)] at hz
        exact hz
      obtain ⟨q1, q2⟩ := c.done j (by omega) z hz'
      exact ⟨q1, fun x hx hc => hp.subset (q2 x hx hc)⟩
theorem Came.end {names : List Tx} {es : List (Tx × Tx)} {starts : List Tx} {goal : Tx} {cut l : List Tx} (c : Came names es starts goal cut l l.length) : ¬ Meets es starts goal cut := by
  have all : ∀ {y}, y ∈ l → (y, goal) ∉ es ∧ ∀ x, (y, x) ∈ es → x ∉ cut → x ∈ l := fun {y} hy => by
    obtain ⟨j, hj, e⟩ := List.mem_iff_getElem.mp hy
    exact c.done j hj y (by rw [List.getElem?_eq_getElem hj, e])
  rintro ⟨y, hr, he⟩
  exact (all (reach_closed c.st (fun a b h1 h2 _ h4 => (all h2).2 b h1 h4) hr)).1 he
theorem ma_test {C : Cal} {U : Store} {l : List Tx} {i : Nat} {ρ : Rho} (h6 : ρ[6]? = some (some (.ref (U.length + 1)))) (h7 : ρ[7]? = some (some (.int i))) :
    evB C W_meets_all_2 ρ (U ++ [.dct 0 (trueD l), .lst (l.map .str)]) = some (.ok (decide (i < l.length)) (U ++ [.dct 0 (trueD l), .lst (l.map .str)])) := by
  simp [W_meets_all_2, evB, ev, evs, h6, h7, recvOk, prim, lenOf, asQ, asL, get_ult, cmp_lt_int, tru_bl]
theorem ma_loop {C : Cal} {U : Store} {names : List Tx} {es : List (Tx × Tx)} {starts cut : List Tx} {ds dc : D} {goal : Tx} {l : List Tx} {o1 : Option D} (w : MWeb names es starts) (hc : asL U dc = some (cut.map .str)) (c : Came names es starts goal cut l 0) :
    ∃ r, whileGo (evB C W_meets_all_2) (execs C W_meets_all_4) WN [some (.lst (edD es)), some ds, some (.str goal), some dc, some (.ref U.length), o1, some (.ref (U.length + 1)), some (.int 0), none, none] (U ++ [.dct 0 (trueD l), .lst (l.map .str)]) = some r ∧
      ((∃ ρ V, r = .nx ρ (U ++ V) ∧ ¬ Meets es starts goal cut) ∨ ∃ V, r = .rt (.bl false) (U ++ V) ∧ Meets es starts goal cut) := by
  refine while_ends (fun m ρ U' => ∃ l i o4 o5, ρ = [some (.lst (edD es)), some ds, some (.str goal), some dc, some (.ref U.length), o1, some (.ref (U.length + 1)), some (.int (i : Nat)), o4, o5] ∧ U' = U ++ [.dct 0 (trueD l), .lst (l.map .str)] ∧ Came names es starts goal cut l i ∧ m = 10 - i) _ ?_ WN 10 _ _ (by decide) ⟨l, 0, none, none, rfl, rfl, c, rfl⟩
  rintro m ρ U' ⟨l, i, o4, o5, rfl, rfl, c, rfl⟩
  have hl : l.length ≤ 10 := Nat.le_trans (nodup_le c.few.1 c.few.2) w.few
  rw [ma_test (l := l) (i := i) rfl rfl]
  by_cases hi : i < l.length
  · refine .inr ⟨by simp [hi], ?_⟩
    have hy : l[i]? = some l[i] := List.getElem?_eq_getElem hi
    have un : execs C W_meets_all_4 [some (.lst (edD es)), some ds, some (.str goal), some dc, some (.ref U.length), o1, some (.ref (U.length + 1)), some (.int (i : Nat)), o4, o5] (U ++ [.dct 0 (trueD l), .lst (l.map .str)]) =
        thn (forL (turnF (.tup [8, 9]) (execs C W_meets_all_3)) (edD es) [some (.lst (edD es)), some ds, some (.str goal), some dc, some (.ref U.length), o1, some (.ref (U.length + 1)), some (.int (i : Nat)), o4, o5] (U ++ [.dct 0 (trueD l), .lst (l.map .str)])) fun ρ' U' => thn (exec C (.aug 7 .add (.cst (.int 1))) ρ' U') fun ρ' U' => some (.nx ρ' U') := by
      simp only [W_meets_all_4, execs, exec, evIt, ev]
      simp [srcOf, forGo_fix]
    rw [un]
    rcases ma_edges (C := C) (U := U) (de := .lst (edD es)) (ds := ds) (o1 := o1) (goal := goal) (y := l[i]) (i := i) hc w.few es l o4 o5 w.edge c.few hy with ⟨h1, V, h2⟩ | ⟨h1, h2, o4', o5', h3⟩
    · refine .inr ⟨.bl false, U ++ V, by rw [h2, thn_rt], .inr ⟨V, rfl, l[i], c.reach _ (List.getElem_mem hi), h1⟩⟩
    · refine .inl ⟨10 - (i + 1), _, _, by omega, ?_, _, i + 1, o4', o5', rfl, rfl, c.next hy h1 h2, rfl⟩
      rw [h3, thn_nx]
      simp [exec, ev]
  · refine .inl ⟨by simp [hi], .inl ⟨_, _, rfl, ?_⟩⟩
    have : i = l.length := by have := c.le; omega
    subst this
    exact c.end
theorem r_meets_all {Γ : Tab} (hΓ : Γ "meets_all" = some W_meets_all) (k : Nat) {U : Store} {names : List Tx} {es : List (Tx × Tx)} {starts cut : List Tx} {goal : Tx} {dc : D} (w : MWeb names es starts) (hc : asL U dc = some (cut.map .str)) :
    ∃ V, run Γ (k + 1) "meets_all" [.lst (edD es), .lst (starts.map .str), .str goal, dc] U = some (.ok (.bl (!MeetsB es starts goal cut)) (U ++ V)) := by
  rw [run_at hΓ rfl]
  obtain ⟨o1, e1, f1⟩ := ma_starts (C := run Γ k) (U := U) (names := names) (cut := cut) (de := .lst (edD es)) (ds := .lst (starts.map .str)) (dc := dc) (goal := goal) (o2 := none) (o3 := none) (o4 := none) (o5 := none) hc w.few starts [] none w.start ⟨List.nodup_nil, fun _ h => by cases h⟩
  rw [show trueD [] = [] from rfl] at e1
  obtain ⟨g1, g2, g3⟩ := st_facts (names := names) (goal := goal) (cut := cut) starts []
  generalize hl : starts.foldl (st1 goal cut) [] = l at e1 f1 g1 g2 g3
  have c : Came names es starts goal cut l 0 := ⟨f1, g2, fun x hx => by
    rcases g3 x hx with h | h
    · cases h
    · exact .start h.1 h.2.1 h.2.2, Nat.zero_le _, fun j hj => absurd hj (by omega)⟩
  obtain ⟨r, e2, q⟩ := ma_loop (C := run Γ k) (U := U) (ds := .lst (starts.map .str)) (dc := dc) (o1 := o1) w hc c
  have hk : (trueD l).map (·.1) = l.map D.str := by simp [trueD]
  have e3 : prim .list1 true [.ref U.length] (U ++ [.dct 0 (trueD l)]) = some (.ok (.ref (U.length + 1)) (U ++ [.dct 0 (trueD l), .lst (l.map .str)])) := by
    simp [prim, listOf, asQ, asL, asD, get_last, mkL, hk]
  simp only [W_meets_all, startR, execs, exec, evIt, ev, evs]
  simp [mkD, asgT, execs, exec, ev, evs, evIt, srcOf, forGo_fix, e1, recvOk, e3]
  rw [e2]
  rcases q with ⟨ρ, V, rfl, hm⟩ | ⟨V, rfl, hm⟩
  · refine ⟨V, ?_⟩
    have : MeetsB es starts goal cut = false := by unfold MeetsB; simp [hm]
    simp [this]
  · refine ⟨V, ?_⟩
    have : MeetsB es starts goal cut = true := by unfold MeetsB; simp [hm]
    simp [this]
end VI

/-! Ld: what is drawn; webs that are alike. -/
namespace VI
theorem lcGo_enum (turn : D → M (Option D)) : ∀ (xs : List D) (i : Nat) (U : Store), lcGo turn (enumS 0 i (fixS xs).get) U = lcL turn (enumD i xs) U
  | [], i, U => rfl
  | x :: r, i, U => by
    show (match ((fun _ : Store => some x) U).map (fun x => D.tup [.int (0 + (i : Int)), x]) with
      | some y => bnd (turn y U) fun o U1 => bnd (lcGo turn (enumS 0 (i + 1) (fixS r).get) U1) fun ds U2 => ret (match o with | some d => d :: ds | none => ds) U2
      | none => none) = bnd (turn (.tup [.int i, x]) U) fun o U1 => bnd (lcL turn (enumD (i + 1) r) U1) fun ds U2 => ret (match o with | some d => d :: ds | none => ds) U2
    simp only [Option.map_some, Int.zero_add]
    congr 1
    funext o U1
    exact congrArg (fun z => bnd z fun ds U2 => ret (match o with | some d => d :: ds | none => ds) U2) (lcGo_enum turn r (i + 1) U1)
theorem enumS_len {k : Int} : ∀ (g : List (Store → Option D)) (i : Nat), (enumS k i g).length = g.length
  | [], _ => rfl
  | x :: r, i => by
    simp only [enumS, List.length_cons, enumS_len r (i + 1)]
/-- some of the names, drawn -/
theorem lc_drawn {turn : D → M (Option D)} {U : Store} : ∀ (ns : List Tx) (i : Nat), (∀ (j : Nat) x, i ≤ j → j < i + ns.length → x ∈ ns → ∃ b : Bool, turn (.tup [.int j, .str x]) U = some (.ok (if b then some (.str x) else none) U)) →
    ∃ l : List Tx, l.Sublist ns ∧ lcL turn (enumD i (ns.map .str)) U = some (.ok (l.map .str) U)
  | [], i, _ => ⟨[], List.Sublist.refl _, rfl⟩
  | x :: r, i, h => by
    obtain ⟨b, e⟩ := h i x (Nat.le_refl _) (by simp) (by simp)
    obtain ⟨l, hl, e2⟩ := lc_drawn r (i + 1) fun j y h1 h2 h3 => h j y (by omega) (by simp only [List.length_cons]; omega) (by simp [h3])
    have un : lcL turn (enumD i ((x :: r).map .str)) U = some (.ok ((match (if b then some (D.str x) else none : Option D) with | some d => d :: l.map .str | none => l.map .str)) U) := by
      rw [List.map_cons, enumD]
      show bnd (turn (.tup [.int i, .str x]) U) (fun o U1 => bnd (lcL turn (enumD (i + 1) (r.map .str)) U1) fun ds U2 => ret (match o with | some d => d :: ds | none => ds) U2) = _
      rw [e]
      simp only [bnd_ok, e2, ret_eq]
    cases b with
    | true => exact ⟨x :: l, hl.cons_cons x, un⟩
    | false => exact ⟨l, hl.cons x, un⟩
theorem rangeL_nat (n : Nat) : rangeL 0 (n : Int) = (List.range n).map fun (k : Nat) => D.int k := by
  unfold rangeL
  rw [show ((n : Int) - 0).toNat = n by omega]
  simp
theorem mweb_of {names starts : List Tx} {es : List (Tx × Tx)} {goal : Tx} (w : WebOk 10 names es starts goal) : MWeb names es starts := ⟨w.most, fun e he => (w.edge e he).2, starts_in w, by have := w.few; omega⟩
/-- meets_all asked of a list of texts -/
theorem meetsF {Γ : Tab} (hΓ : Γ "meets_all" = some W_meets_all) {d : Nat} {V : Store} {names starts : List Tx} {es : List (Tx × Tx)} {goal : Tx} (w : MWeb names es starts) (l : List Tx) :
    frz true V (run Γ (d + 1) "meets_all" [.lst (edD es), .lst (starts.map .str), .str goal, .lst (l.map .str)] V) = some (.ok (.bl (!MeetsB es starts goal l)) V) := by
  obtain ⟨J, r⟩ := r_meets_all hΓ d (U := V) (goal := goal) (dc := .lst (l.map .str)) (cut := l) w rfl
  rw [r]
  exact frz_drop rfl
theorem divOk_small {j : Int} (h0 : 0 < j) (h1 : j < 9000) : divOk j = true := by
  unfold divOk
  have := Nat.log2_le_self j.natAbs
  simp only [Bool.and_eq_true, decide_eq_true_eq]
  exact ⟨h0, by omega⟩
theorem cut_lo {α : Type} (l : List α) {k : Int} (h : 0 ≤ k) : cut l none (some k) = l.take k.toNat := by
  unfold cut sIx
  have h1 : ¬ k < 0 := by omega
  simp only [h1, if_false, List.drop_zero, Nat.sub_zero]
  by_cases q : k.toNat ≤ l.length
  · rw [Nat.min_eq_left q]
  · rw [Nat.min_eq_right (by omega), List.take_of_length_le (Nat.le_refl _), List.take_of_length_le (by omega)]
theorem cut_hi {α : Type} (l : List α) {k : Int} (h : 0 ≤ k) : cut l (some k) none = l.drop k.toNat := by
  unfold cut sIx
  have h1 : ¬ k < 0 := by omega
  simp only [h1, if_false]
  by_cases q : k.toNat ≤ l.length
  · rw [Nat.min_eq_left q, List.take_of_length_le (by rw [List.length_drop]; omega)]
  · rw [Nat.min_eq_right (by omega), List.drop_of_length_le (Nat.le_refl _), List.drop_of_length_le (by omega), List.take_nil]
section
variable {es es' : List (Tx × Tx)} {starts starts' : List Tx} {goal : Tx} {cs cs' : List (List Tx)} {ct ct' : List Tx}
/-- webs with the same ways -/
structure Same (es es' : List (Tx × Tx)) (starts starts' : List Tx) (goal : Tx) : Prop where
  e1 : ∀ e ∈ es, e ∈ es'
  e2 : ∀ e ∈ es', e.1 ≠ e.2 → e.1 ≠ goal → e ∈ es
  s1 : ∀ s ∈ starts, s ∈ starts'
  s2 : ∀ s ∈ starts', s ≠ goal → s ∈ starts
theorem Same.chain (S : Same es es' starts starts' goal) {l : List Tx} (c : Chain es' starts' goal l) : Chain es starts goal l := by
  have ng : ∀ {i x}, l[i]? = some x → x ≠ goal := fun {i x} h e => c.ng (e ▸ List.mem_of_getElem? h)
  refine ⟨c.ne, fun x hx => S.s2 x (c.hd x hx) (ng hx), fun i a b ha hb => S.e2 _ (c.st i a b ha hb) (fun e => ?_) (ng ha), fun i z hi hz => S.e2 _ (c.last i z hi hz) (ng hz) (ng hz), c.ng, c.nd⟩
  have ha' := List.getElem?_eq_some_iff.mp ha
  have hb' := List.getElem?_eq_some_iff.mp hb
  have : i = i + 1 := (List.getElem_inj c.nd).mp (ha'.2.trans (Eq.trans e hb'.2.symm))
  omega
theorem Same.many (S : Same es es' starts starts' goal) (b : Best es starts goal cs ct) (b' : Best es' starts' goal cs' ct') : cs'.length = cs.length :=
  Nat.le_antisymm (b.few (fun c hc => S.chain (b'.chain c hc)) b'.apart) (b'.mono b S.e1 S.s1)
theorem Same.meets (S : Same es es' starts starts' goal) (hc : ∀ x, x ∈ ct' ↔ x ∈ ct) : Meets es' starts' goal ct' ↔ Meets es starts goal ct := by
  have r1 : ∀ x, Reach es' starts' goal ct' x → x ≠ goal ∧ Reach es starts goal ct x := fun x r => by
    induction r with
    | start h1 h2 h3 => exact ⟨h2, .start (S.s2 _ h1 h2) h2 fun q => h3 ((hc _).mpr q)⟩
    | @step y x r e g c ih =>
      refine ⟨g, ?_⟩
      by_cases q : y = x
      · rw [← q]
        exact ih.2
      · exact .step ih.2 (S.e2 _ e q ih.1) g fun z => c ((hc _).mpr z)
  have r2 : ∀ x, Reach es starts goal ct x → Reach es' starts' goal ct' x := fun x r => by
    induction r with
    | start h1 h2 h3 => exact .start (S.s1 _ h1) h2 fun q => h3 ((hc _).mp q)
    | step r e g c ih => exact .step ih (S.e1 _ e) g fun z => c ((hc _).mp z)
  constructor
  · rintro ⟨y, r, e⟩
    obtain ⟨h1, h2⟩ := r1 y r
    exact ⟨y, h2, S.e2 _ e h1 h1⟩
  · rintro ⟨y, r, e⟩
    exact ⟨y, r2 y r, S.e1 _ e⟩
theorem Same.meetsB (S : Same es es' starts starts' goal) (hc : ∀ x, x ∈ ct' ↔ x ∈ ct) : MeetsB es' starts' goal ct' = MeetsB es starts goal ct := by
  have h := S.meets hc
  unfold MeetsB
  by_cases q : Meets es starts goal ct
  · rw [@decide_eq_true _ (Classical.propDecidable _) q, @decide_eq_true _ (Classical.propDecidable _) (h.mpr q)]
  · rw [@decide_eq_false _ (Classical.propDecidable _) q, @decide_eq_false _ (Classical.propDecidable _) fun z => q (h.mp z)]
end
end VI

/-! Lch: _law_texts, _law_chain, _law_apart (for any table that has them; a list as a datum or in the store). -/
namespace VI
def W_ltexts_1 : IE := (.isin (.var 1) ["str"])
def W_ltexts : Fn := ⟨1, 2,
 (.cons (.ifS (.notE (.isin (.var 0) ["list"]))
 (.cons (.ret (.cst (.bl false)))
 .nil)
 .nil)
 (.cons (.ret (.prim .all1 false (.cons (.lc false [1] (.var 1) (.seq (.var 0)) yes W_ltexts_1) .nil)))
 .nil))⟩
def W_lchain_1 : IE := (.cmp .isIn (.tup (.cons (.idx (.var 0) (.var 4)) (.cons (.idx (.var 0) (.bin .add false (.var 4) (.cst (.int 1)))) .nil))) (.var 1))
def W_lchain : Fn := ⟨4, 5,
 (.cons (.ifS (.orE (.notE (.call true "_law_texts" (.cons (.var 0) .nil))) (.orE (.cmp .eq (.prim .len false (.cons (.var 0) .nil)) (.cst (.int 0))) (.orE (.cmp .notIn (.idx (.var 0) (.cst (.int 0))) (.var 2)) (.cmp .isIn (.var 3) (.var 0)))))
 (.cons (.ret (.cst (.bl false)))
 .nil)
 .nil)
 (.cons (.ifS (.orE (.cmp .ne (.prim .lenSet false (.cons (.var 0) .nil)) (.prim .len false (.cons (.var 0) .nil))) (.cmp .notIn (.tup (.cons (.idx (.var 0) (.neg (.cst (.int 1)))) (.cons (.var 3) .nil))) (.var 1)))
 (.cons (.ret (.cst (.bl false)))
 .nil)
 .nil)
 (.cons (.ret (.prim .all1 false (.cons (.lc false [4] (.var 4) (.range1 (.bin .sub false (.prim .len false (.cons (.var 0) .nil)) (.cst (.int 1)))) yes W_lchain_1) .nil)))
 .nil)))⟩
def W_lapart_1 : ISs := (.cons (.asg (.var 1) (.bin .add false (.var 1) (.prim .list1 false (.cons (.var 2) .nil))))
 .nil)
def W_lapart : Fn := ⟨1, 3,
 (.cons (.asg (.var 1) (.lst false .nil))
 (.cons (.forS (.var 2) (.seq (.var 0)) W_lapart_1)
 (.cons (.ret (.cmp .eq (.prim .lenSet false (.cons (.var 1) .nil)) (.prim .len false (.cons (.var 1) .nil))))
 .nil)))⟩
theorem pyeq_refl : ∀ d : D, ∀ n, plain d n = true → pyeq d d = true
  | .non, n, h => rfl
  | .bl b, n, h => by simp [pyeq]
  | .int i, n, h => by simp [pyeq]
  | .str x, n, h => by simp [pyeq]
  | .tup xs, n, h => by
    cases n with
    | zero => simp [plain] at h
    | succ n => simp only [plain] at h; simp only [pyeq]; exact pyeqL_refl xs n h
  | .lst xs, n, h => by
    cases n with
    | zero => simp [plain] at h
    | succ n => simp only [plain] at h; simp only [pyeq]; exact pyeqL_refl xs n h
  | .dct _ _, n, h => by simp [plain] at h
  | .ref _, n, h => by simp [plain] at h
  | .exn _ _, n, h => by simp [plain] at h
where pyeqL_refl : ∀ ds : List D, ∀ n, plainL ds n = true → pyeqL ds ds = true
  | [], n, h => rfl
  | x :: r, n, h => by
    simp only [plainL, Bool.and_eq_true] at h
    simp only [pyeqL, Bool.and_eq_true]
    exact ⟨pyeq_refl x n h.1, pyeqL_refl r n h.2⟩
theorem plainL_edD {es : List (Tx × Tx)} {n : Nat} (h : ∀ e ∈ es, Small e.1 ∧ Small e.2) : plainL (edD es) (n + 1) = true := by
  induction es with
  | nil => rfl
  | cons x r ih =>
    have := h x (by simp)
    simp only [edD, List.map_cons, plainL, Bool.and_eq_true, eD, plain, plainL, Bool.and_true]
    exact ⟨⟨plain_str (n := n) this.1, plain_str (n := n) this.2⟩, ih fun y hy => h y (by simp [hy])⟩
/-! ### lists as data or in the store -/
theorem asL_len {U : Store} {d : D} {xs : List D} (h : asL U d = some xs) : prim .len false [d] U = some (.ok (.int xs.length) U) := by
  have hq : asQ U d = some xs := by cases d <;> simp_all [asQ, asL]
  cases d with
  | str y => simp [asL] at h
  | _ => simp only [prim, lenOf, hq]
theorem asL_idx {U : Store} {d v : D} {xs : List D} {i : Int} (h : asL U d = some xs) (hv : atI xs i = some v) : index1 d (.int i) U = some (.ok v U) := by
  have hq : asQ U d = some xs := by cases d <;> simp_all [asQ, asL]
  cases d with
  | str y => simp [asL] at h
  | _ => simp only [index1, hq, hv]
theorem atI_nat {α : Type} {xs : List α} {i : Nat} {x : α} (h : xs[i]? = some x) : atI xs (i : Int) = some x := by
  have hi := (List.getElem?_eq_some_iff.mp h).1
  unfold atI ixN
  rw [if_pos (by omega), if_pos (by omega)]
  simpa using h
theorem atI_last {α : Type} {xs : List α} {x : α} (h : xs[xs.length - 1]? = some x) : atI xs (-1) = some x := by
  have hi := (List.getElem?_eq_some_iff.mp h).1
  unfold atI ixN
  rw [if_neg (by decide), if_pos (by omega)]
  have : ((-1 : Int) + (xs.length : Int)).toNat = xs.length - 1 := by omega
  simp only [Option.bind_some, this]
  exact h
theorem asL_list {U : Store} {d : D} {xs : List D} (h : asL U d = some xs) : isInst U d ["list"] = some true := by
  cases d with
  | lst ys => simp [isInst, isInst1, tyN, someTypes]
  | ref n =>
    simp only [asL] at h
    split at h
    · rename_i ys hn
      simp [isInst, isInst1, tyN, hn, someTypes]
    · cases h
  | _ => simp [asL] at h
theorem forSeq {turn : D → Rho → Store → Option RS} {U : Store} {d : D} {xs : List D} (h : asL U d = some xs) (I : List D → Rho → Prop) (ρ : Rho) (h0 : I [] ρ) (st : ∀ (dn : List D) (x : D) (r : List D) (ρ : Rho), xs = dn ++ x :: r → I dn ρ → ∃ ρ', turn x ρ U = some (.nx ρ' U) ∧ I (dn ++ [x]) ρ') :
    ∃ src ρ', srcOf U d = some src ∧ forGo src.fin turn src.get ρ U = some (.nx ρ' U) ∧ I xs ρ' := by
  cases d with
  | lst ys =>
    cases h
    obtain ⟨ρ', e, hi⟩ := forL_inv (turn := turn) (U := U) I xs [] ρ h0 fun dn x r ρ e hI => st dn x r ρ (by simpa using e) hI
    exact ⟨_, ρ', rfl, by rw [forGo_fix]; exact e, by simpa using hi⟩
  | ref n =>
    have hn : U[n]? = some (.lst xs) := by
      simp only [asL] at h
      split at h
      · rename_i ys hn
        cases h
        exact hn
      · cases h
    have key := forLive (turn := turn) (n := n) (id : D → D) xs (fun dn ρ V => V = U ∧ I dn ρ) (fun dn ρ V ⟨e, _⟩ => by rw [e, List.map_id]; exact hn) (fun _ => False)
      (fun dn x r ρ V e ⟨ev, hI⟩ => by
        subst ev
        obtain ⟨ρ', e1, h1⟩ := st dn x r ρ e hI
        exact .inl ⟨ρ', _, e1, rfl, h1⟩) ρ U ⟨rfl, h0⟩
    rw [List.map_id] at key
    rcases key with ⟨ρ', V, e, ev, hI⟩ | ⟨_, _, _, q⟩
    · subst ev
      exact ⟨liveS n xs.length, ρ', by simp only [srcOf, hn], e, hI⟩
    · exact q.elim
  | _ => simp [asL] at h
theorem lcGo_live {turn : D → M (Option D)} {U : Store} {n : Nat} {ys : List D} (hn : U[n]? = some (.lst ys)) (h : ∀ x ∈ ys, ∃ o, turn x U = some (.ok o U)) : ∀ (r dn : List D), ys = dn ++ r → lcGo turn ((List.range' dn.length r.length).map fun i U => (match U[n]? with
    | some (.lst zs) => if zs.length = ys.length then zs[i]? else none
    | _ => none)) U = lcL turn r U
  | [], dn, e => rfl
  | x :: r, dn, e => by
    have ih := lcGo_live hn h r (dn ++ [x]) (by rw [e]; simp)
    rw [List.length_append, List.length_singleton] at ih
    obtain ⟨o, eo⟩ := h x (by rw [e]; simp)
    have gx : ys[dn.length]? = some x := by
      rw [e, List.getElem?_append_right (Nat.le_refl _)]
      simp
    simp only [List.length_cons, List.range'_succ, List.map_cons]
    show (match (match U[n]? with
      | some (.lst zs) => if zs.length = ys.length then zs[dn.length]? else none
      | _ => none) with
      | some x => bnd (turn x U) fun o U1 => bnd (lcGo turn _ U1) fun ds U2 => ret (match o with | some d => d :: ds | none => ds) U2
      | none => none) = bnd (turn x U) fun o U1 => bnd (lcL turn r U1) fun ds U2 => ret (match o with | some d => d :: ds | none => ds) U2
    simp only [hn, if_true, gx, eo, bnd_ok]
    rw [ih]
theorem lcSeq {turn : D → M (Option D)} {U : Store} {d : D} {xs : List D} (h : asL U d = some xs) (ht : ∀ x ∈ xs, ∃ o, turn x U = some (.ok o U)) : ∃ src, srcOf U d = some src ∧ src.get.length = xs.length ∧ src.fin U = true ∧ lcGo turn src.get U = lcL turn xs U := by
  cases d with
  | lst ys =>
    cases h
    exact ⟨_, rfl, fixS_len _, rfl, lcGo_fix _ _ _⟩
  | ref n =>
    have hn : U[n]? = some (.lst xs) := by
      simp only [asL] at h
      split at h
      · rename_i ys hn
        cases h
        exact hn
      · cases h
    refine ⟨liveS n xs.length, by simp only [srcOf, hn], by simp [liveS], by simp [liveS, hn], ?_⟩
    have := lcGo_live hn ht xs [] rfl
    rw [List.length_nil, ← List.range_eq_range'] at this
    exact this
  | _ => simp [asL] at h
section
variable {Γ : Tab} {U : Store} {d : D} {names starts : List Tx} {es : List (Tx × Tx)} {goal : Tx}
theorem all_true {α : Type} (xs : List α) : (xs.map fun _ => true).all id = true := by
  induction xs with
  | nil => rfl
  | cons x r ih => simp [ih]
theorem r_ltexts (hΓ : Γ "_law_texts" = some W_ltexts) (k : Nat) {l : List Tx} (h : asL U d = some (l.map .str)) (hz : l.length ≤ SZ) : run Γ (k + 1) "_law_texts" [d] U = some (.ok (.bl true) U) := by
  have hl := asL_list h
  obtain ⟨src, e1, e2, e3, e4⟩ := lcSeq (turn := turnL (.var 1) (evB (run Γ k) yes) (ev (run Γ k) W_ltexts_1) (wipe [some d, none] [1])) h fun x hx => by
    obtain ⟨t, _, rfl⟩ := List.mem_map.mp hx
    exact ⟨some (.bl true), by simp [turnL, asgT, W_ltexts_1, wipe, ev, isInst, isInst1, tyN, someTypes]⟩
  have lc : lcL (turnL (.var 1) (evB (run Γ k) yes) (ev (run Γ k) W_ltexts_1) (wipe [some d, none] [1])) (l.map .str) U = some (.ok (l.map fun _ => D.bl true) U) :=
    lcL_maps D.str (fun _ => .bl true) l fun x _ => by simp [turnL, asgT, W_ltexts_1, wipe, ev, isInst, isInst1, tyN, someTypes]
  have nz : ¬ SZ < src.get.length := by rw [e2, List.length_map]; omega
  have bm : bools (l.map fun _ => D.bl true) = some (l.map fun _ => true) := bools_map (fun _ => true) l
  rw [run_at hΓ rfl]
  simp only [W_ltexts, startR, List.map_cons, List.map_nil, List.replicate, List.cons_append, List.nil_append, Nat.reduceSub]
  simp only [execs, exec, evB, ev, evs, evIt, List.getElem?_cons_zero, bnd_ok, hl, tru_bl, Bool.not_true, bndS_ok, Bool.false_eq_true, if_false, thn_nx, e1, if_neg nz, e4, lc, e3, if_true, mkL, recvOk, prim, asL, bm, all_true, thn_rt, fin_rt]
theorem pyeq_eD (a b : Tx × Tx) : pyeq (eD a) (eD b) = decide (a = b) := by
  obtain ⟨a1, a2⟩ := a
  obtain ⟨b1, b2⟩ := b
  simp [eD, pyeq, pyeqL]
/-- a pair in a list of pairs -/
theorem mem_edges (x y : Tx) (hx : Small x ∧ Small y) (he : ∀ e ∈ es, Small e.1 ∧ Small e.2) : member U (.tup [.str x, .str y]) (.lst (edD es)) = some (decide ((x, y) ∈ es)) := by
  have hf : flat (.tup [.str x, .str y]) = false := rfl
  have pt : plain (.tup [.str x, .str y]) 40 = true := by
    rw [plain_tup2, plain_str hx.1, plain_str hx.2]
    rfl
  have sn : snaps U (.tup [.str x, .str y]) (.lst (edD es)) (edD es) = some (.tup [.str x, .str y], edD es) := by
    unfold snaps
    rw [hf]
    have c1 : snap U (.tup [.str x, .str y]) = some (.tup [.str x, .str y]) := snap_closed rfl
    simp only [Bool.false_and, Bool.false_eq_true, if_false, asL, c1, snapL_closed (closed_edD es), pt, plainL_edD he, Bool.and_self, if_true]
  have e : member U (.tup [.str x, .str y]) (.lst (edD es)) = inL U (.tup [.str x, .str y]) (.lst (edD es)) (edD es) := by
    unfold member
    simp only [asQ, asL]
  rw [e]
  unfold inL
  rw [sn]
  simp only [edD, List.any_map]
  congr 1
  have : ∀ l : List (Tx × Tx), l.any ((fun z => pyeq z (.tup [.str x, .str y])) ∘ eD) = decide ((x, y) ∈ l) := by
    intro l
    induction l with
    | nil => simp
    | cons p r ih =>
      rw [List.any_cons, ih]
      have : pyeq (eD p) (.tup [.str x, .str y]) = decide (p = (x, y)) := pyeq_eD p (x, y)
      simp only [Function.comp, this]
      by_cases q : p = (x, y)
      · subst q; simp
      · have : ¬ (x, y) = p := fun z => q z.symm
        simp [q, this]
  exact this es
theorem texts_strs : ∀ l : List Tx, texts (l.map .str) = some l
  | [] => rfl
  | x :: r => by
    simp only [List.map_cons, texts, texts_strs r]
theorem dedupT_id : ∀ {l : List Tx}, l.Nodup → dedupT l = l
  | [], _ => rfl
  | x :: r, h => by
    rw [List.nodup_cons] at h
    have q : r.contains x = false := by simpa using h.1
    unfold dedupT
    rw [q]
    simp only [Bool.false_eq_true, if_false, dedupT_id h.2]
theorem len_set {l : List Tx} (h : asL U d = some (l.map .str)) (nd : l.Nodup) (hz : l.length ≤ 4000) : prim .lenSet false [d] U = some (.ok (.int l.length) U) := by
  simp only [prim, h, texts_strs, dedupT_id nd, hz, if_true]
theorem Chain.within {l : List Tx} (c : Chain es starts goal l) (hs : ∀ s ∈ starts, s ∈ names) (he : ∀ e ∈ es, e.1 ∈ names ∧ e.2 ∈ names) : ∀ x ∈ l, x ∈ names := by
  intro x hx
  obtain ⟨i, hi, rfl⟩ := List.mem_iff_getElem.mp hx
  cases i with
  | zero => exact hs _ (c.hd _ (List.getElem?_eq_getElem hi))
  | succ i => exact (he _ (c.st i _ _ (List.getElem?_eq_getElem (by omega)) (List.getElem?_eq_getElem hi))).2
theorem r_lchain (ht : Γ "_law_texts" = some W_ltexts) (hΓ : Γ "_law_chain" = some W_lchain) (k : Nat) {l : List Tx} (h : asL U d = some (l.map .str)) (c : Chain es starts goal l) (G : Given names starts es) (hg : Small goal) :
    run Γ (k + 2) "_law_chain" [d, .lst (edD es), .lst (starts.map .str), .str goal] U = some (.ok (.bl true) U) := by
  have cn := c.within G.start G.edge
  have ln : l.length ≤ names.length := nodup_le c.nd cn
  have gf := G.few
  have z1 : (4000 : Nat) < SZ := by decide
  have hlen : 0 < l.length := List.length_pos_iff.mpr c.ne
  have sml : ∀ x ∈ l, Small x := fun x hx => G.sm x (cn x hx)
  have sme : ∀ e ∈ es, Small e.1 ∧ Small e.2 := fun e he => ⟨G.sm _ (G.edge e he).1, G.sm _ (G.edge e he).2⟩
  have e1 := r_ltexts ht k h (by omega)
  have fe1 : frz true U (run Γ (k + 1) "_law_texts" [d] U) = some (.ok (.bl true) U) := by rw [e1, frz_bl]
  obtain ⟨x0, h0⟩ : ∃ x, l[0]? = some x := ⟨_, List.getElem?_eq_getElem hlen⟩
  obtain ⟨xl, hl⟩ : ∃ x, l[l.length - 1]? = some x := ⟨_, List.getElem?_eq_getElem (by omega)⟩
  have i0 : index1 d (.int 0) U = some (.ok (.str x0) U) := asL_idx h (atI_nat (i := 0) (by rw [List.getElem?_map, h0]; rfl))
  have il : index1 d (.int (-1)) U = some (.ok (.str xl) U) := asL_idx h (atI_last (by rw [List.length_map, List.getElem?_map, hl]; rfl))
  have n1 := asL_len h
  rw [List.length_map] at n1
  have n2 := len_set h c.nd (by omega)
  have m0 : member U (.str x0) (.lst (starts.map .str)) = some true := by rw [mem_strs x0 (rfl : asL U (.lst (starts.map .str)) = some _), decide_eq_true (c.hd x0 h0)]
  have mg : member U (.str goal) d = some false := by rw [mem_strs goal h, decide_eq_false c.ng]
  have ml : member U (.tup [.str xl, .str goal]) (.lst (edD es)) = some true := by
    rw [mem_edges xl goal ⟨sml _ (List.mem_of_getElem? hl), hg⟩ sme, decide_eq_true (c.last (l.length - 1) xl (by omega) hl)]
  have q0 : decide ((l.length : Int) = 0) = false := by
    rw [decide_eq_false_iff_not]
    omega
  have q1 : decide ((l.length : Int) = (l.length : Int)) = true := by simp
  have hs : small ((l.length : Int) - 1) = true := by
    unfold small
    simp only [Bool.and_eq_true, decide_eq_true_eq]
    omega
  have rl : rangeL 0 ((l.length : Int) - 1) = (List.range (l.length - 1)).map fun (j : Nat) => D.int j := by
    have := rangeL_nat (l.length - 1)
    rw [← this]
    congr 1
    omega
  have t1 : ∀ j ∈ List.range (l.length - 1), turnL (.var 4) (evB (run Γ (k + 1)) yes) (ev (run Γ (k + 1)) W_lchain_1) (wipe [some d, some (.lst (edD es)), some (.lst (starts.map .str)), some (.str goal), none] [4]) (D.int j) U = some (.ok (some (.bl true)) U) := fun j hj => by
    have hj : j < l.length - 1 := List.mem_range.mp hj
    obtain ⟨a, ha⟩ : ∃ x, l[j]? = some x := ⟨_, List.getElem?_eq_getElem (by omega)⟩
    obtain ⟨b, hb⟩ : ∃ x, l[j + 1]? = some x := ⟨_, List.getElem?_eq_getElem (by omega)⟩
    have ia : index1 d (.int j) U = some (.ok (.str a) U) := asL_idx h (atI_nat (i := j) (by rw [List.getElem?_map, ha]; rfl))
    have ib : index1 d (.int ((j : Int) + 1)) U = some (.ok (.str b) U) := asL_idx h (atI_nat (i := j + 1) (by rw [List.getElem?_map, hb]; rfl))
    have mm : member U (.tup [.str a, .str b]) (.lst (edD es)) = some true := by
      rw [mem_edges a b ⟨sml _ (List.mem_of_getElem? ha), sml _ (List.mem_of_getElem? hb)⟩ sme, decide_eq_true (c.st j a b ha hb)]
    have wr : (wipe [some d, some (.lst (edD es)), some (.lst (starts.map .str)), some (.str goal), none] [4]).set 4 (some (.int j)) = [some d, some (.lst (edD es)), some (.lst (starts.map .str)), some (.str goal), some (.int j)] := rfl
    simp only [turnL, asgT, wr, evB_yes, bnd_ok, if_true, W_lchain_1, ev, evs, List.getElem?_cons_zero, List.getElem?_cons_succ, ia, binop, addOp, ib, cmp_in, mm, ret_eq, noEx_ok]
  have lc := lcL_maps (fun (j : Nat) => D.int j) (fun _ => D.bl true) (List.range (l.length - 1)) t1
  have bm : bools ((List.range (l.length - 1)).map fun _ => D.bl true) = some ((List.range (l.length - 1)).map fun _ => true) := bools_map (fun _ => true) _
  have pa : prim .all1 false [.lst ((List.range (l.length - 1)).map fun _ => D.bl true)] U = some (.ok (.bl true) U) := by simp only [prim, asL, bm, all_true]
  have nz : ¬ SZ < (fixS ((List.range (l.length - 1)).map fun (j : Nat) => D.int j)).get.length := by
    rw [fixS_len, List.length_map, List.length_range]
    omega
  rw [run_at hΓ rfl]
  simp only [W_lchain, startR, List.map_cons, List.map_nil, List.replicate, List.cons_append, List.nil_append, Nat.reduceSub]
  simp only [execs, exec, evB, ev, evs, evIt, List.getElem?_cons_zero, List.getElem?_cons_succ, bnd_ok, fe1, tru_bl, Bool.not_true, Bool.false_eq_true, if_false, recvOk, if_true, n1, cmp_eq_int, q0, i0, cmp_notIn, m0, Option.map_some, cmp_in, mg, bndS_ok, thn_nx, n2, cmp_ne_int, decide_true, il, ml, binop, hs, rl, if_neg nz, lcGo_fix, lc, fixS_fin, mkL, pa, thn_rt, fin_rt, Int.reduceNeg]
theorem apart_flat {cs : List (List Tx)} (ap : Apart cs) (nd : ∀ c ∈ cs, c.Nodup) : cs.flatten.Nodup := by
  unfold List.Nodup
  rw [List.pairwise_flatten]
  refine ⟨nd, List.Pairwise.imp (fun {a b} h x hx y hy e => ?_) ap⟩
  subst e
  exact h x hx hy
theorem r_lapart (hΓ : Γ "_law_apart" = some W_lapart) (k : Nat) {zs : List (D × List Tx)} (h : asL U d = some (zs.map (·.1))) (hz : ∀ z ∈ zs, asL U z.1 = some (z.2.map .str)) (ap : Apart (zs.map (·.2))) (nd : ∀ z ∈ zs, z.2.Nodup) (hn : ∀ z ∈ zs, ∀ x ∈ z.2, x ∈ names) (hl : names.length ≤ 4000) :
    run Γ (k + 1) "_law_apart" [d] U = some (.ok (.bl true) U) := by
  have z1 : (8000 : Nat) < SZ := by decide
  have fl : (zs.map (·.2)).flatten.Nodup := apart_flat ap fun c hc => by
    obtain ⟨z, hz, rfl⟩ := List.mem_map.mp hc
    exact nd z hz
  have flen : (zs.map (·.2)).flatten.length ≤ names.length := nodup_le fl fun x hx => by
    obtain ⟨c, hc, hx⟩ := List.mem_flatten.mp hx
    obtain ⟨z, hz, rfl⟩ := List.mem_map.mp hc
    exact hn z hz x hx
  obtain ⟨src, ρ', e1, e2, dn, hd, o, eρ⟩ := forSeq (turn := turnF (.var 2) (execs (run Γ k) W_lapart_1)) h (fun dn ρ => ∃ ws : List (D × List Tx), dn = ws.map (·.1) ∧ ∃ o, ρ = [some d, some (.lst ((ws.map (·.2)).flatten.map .str)), o] ∧ ∃ us, zs = ws ++ us) [some d, some (.lst []), none] ⟨[], rfl, none, rfl, zs, rfl⟩
    (fun dn x r ρ e ⟨ws, hws, o, hρ, us, hus⟩ => by
      subst hρ
      obtain ⟨z, vs, rfl⟩ : ∃ z vs, us = z :: vs := by
        cases us with
        | nil =>
          rw [List.append_nil] at hus
          subst hus hws
          have := congrArg List.length e
          simp only [List.length_append, List.length_cons, List.length_map] at this
          omega
        | cons z vs => exact ⟨z, vs, rfl⟩
      have hx : x = z.1 := by
        rw [hus, hws] at e
        simp only [List.map_append, List.map_cons] at e
        exact (List.cons.inj (List.append_cancel_left e)).1.symm
      subst hx
      have az := hz z (by rw [hus]; simp)
      have aq : asQ U z.1 = some (z.2.map .str) := by
        cases hd : z.1 <;> simp_all [asQ, asL]
      have l1 : prim .list1 false [z.1] U = some (.ok (.lst (z.2.map .str)) U) := by
        simp only [prim, listOf, aq, mkL, Bool.false_eq_true, if_false]
      have bound : ((ws.map (·.2)).flatten.map D.str).length + (z.2.map D.str).length ≤ SZ := by
        rw [hus] at flen
        simp only [List.map_append, List.map_cons, List.flatten_append, List.flatten_cons, List.length_append] at flen
        rw [List.length_map, List.length_map]
        omega
      refine ⟨[some d, some (.lst (((ws ++ [z]).map (·.2)).flatten.map .str)), some z.1], ?_, ws ++ [z], by rw [hws]; simp, some z.1, rfl, vs, by rw [hus]; simp⟩
      have fe : ((ws ++ [z]).map (·.2)).flatten.map D.str = (ws.map (·.2)).flatten.map .str ++ z.2.map .str := by simp
      rw [fe]
      simp only [turnF, asgT, W_lapart_1, execs, exec, ev, evs, List.set_cons_zero, List.set_cons_succ, List.getElem?_cons_zero, List.getElem?_cons_succ, bnd_ok, recvOk, if_true, l1, binop, addOp, asL, bound, mkL, Bool.false_eq_true, if_false, bndS_ok, thn_nx])
  obtain ⟨eρ, us, hus⟩ := eρ
  have : dn = zs := by
    have : us.length = 0 := by
      have h1 := congrArg List.length hd
      have h2 := congrArg List.length hus
      simp only [List.length_map, List.length_append] at h1 h2
      omega
    rw [List.length_eq_zero_iff.mp this, List.append_nil] at hus
    exact hus.symm
  subst this
  have n1 := asL_len (U := U) (d := .lst ((dn.map (·.2)).flatten.map .str)) (xs := (dn.map (·.2)).flatten.map .str) rfl
  have n2 := len_set (U := U) (d := .lst ((dn.map (·.2)).flatten.map .str)) (l := (dn.map (·.2)).flatten) rfl fl (by omega)
  rw [List.length_map] at n1
  rw [run_at hΓ rfl]
  simp only [W_lapart, startR, List.map_cons, List.map_nil, List.replicate, List.cons_append, List.nil_append, Nat.reduceSub]
  simp only [execs, exec, ev, evs, evIt, mkL, Bool.false_eq_true, if_false, bnd_ok, bndS_ok, asgT, List.set_cons_zero, List.set_cons_succ, thn_nx, List.getElem?_cons_zero, List.getElem?_cons_succ, e1, e2, eρ, recvOk, if_true, n1, n2, cmp_eq_int, decide_true, thn_rt, fin_rt]
end
/-! ### the order of texts -/
theorem leS_le (a b : Tx) : leS a b = decide (a ≤ b) := by
  unfold leS ltD
  simp only [pylt, Option.getD_some]
  by_cases h : b < a
  · have : ¬ a ≤ b := fun q => q h
    simp [h, this]
  · have : a ≤ b := h
    simp [h, this]
theorem leS_sorted (l : List Tx) : (l.mergeSort leS).Pairwise fun a b => leS a b = true := by
  refine List.pairwise_mergeSort (fun a b c h1 h2 => ?_) (fun a b => ?_) l
  · rw [leS_le, decide_eq_true_eq] at *
    exact List.le_trans h1 h2
  · rw [leS_le, leS_le, Bool.or_eq_true, decide_eq_true_eq, decide_eq_true_eq]
    exact List.le_total _ _
theorem leS_again (l : List Tx) : (l.mergeSort leS).mergeSort leS = l.mergeSort leS := by
  refine List.Perm.eq_of_pairwise (le := fun a b => leS a b = true) (fun a b _ _ h1 h2 => ?_) (leS_sorted _) (leS_sorted _) (List.mergeSort_perm _ _)
  rw [leS_le, decide_eq_true_eq] at h1 h2
  exact List.le_antisymm h1 h2
/-- data alike are ==, as trees -/
theorem cmp_ne_same {U : Store} {a b t : D} (ha : snap U a = some t) (hb : snap U b = some t) (hp : plain t 40 = true) (hs : scalS a b = false) : cmpop .ne U a b = some false := by
  simp only [cmpop, eqv, hs, Bool.false_eq_true, if_false, ha, hb, hp, Bool.and_self, if_true, pyeq_refl _ 40 hp, Option.map_some, Bool.not_true]
end VI

/-! Gt: who holds a matter, in plain Lean. -/
namespace VI
section
variable {es es' : List (Tx × Tx)} {H H' seers seers' starts : List Tx} {p goal : Tx} {needs needs' : List (Tx × Nat)} {cs : List (List Tx)}
def within (es : List (Tx × Tx)) (H : List Tx) (p : Tx) : List (Tx × Tx) := es.filter fun e => decide (e.1 ∈ H) && (decide (e.2 ∈ H) || decide (e.2 = p))
theorem mem_within {e : Tx × Tx} : e ∈ within es H p ↔ e ∈ es ∧ e.1 ∈ H ∧ (e.2 ∈ H ∨ e.2 = p) := by
  unfold within
  simp only [List.mem_filter, Bool.and_eq_true, Bool.or_eq_true, decide_eq_true_eq]
theorem within_mono (he : ∀ e ∈ es', e ∈ es) (hH : ∀ x ∈ H', x ∈ H) : ∀ e ∈ within es' H' p, e ∈ within es H p := by
  intro e h
  obtain ⟨h1, h2, h3⟩ := mem_within.mp h
  exact mem_within.mpr ⟨he _ h1, hH _ h2, h3.imp (hH _) id⟩
theorem within_sub : (within es H p).Sublist es := List.filter_sublist
/-- the people of H from whom there is an edge to p, by edges -/
def nearF (H : List Tx) (p : Tx) (e : Tx × Tx) : Option Tx := if e.2 = p ∧ e.1 ∈ H then some e.1 else none
def nearL (es : List (Tx × Tx)) (H : List Tx) (p : Tx) : List Tx := es.filterMap (nearF H p)
theorem mem_nearL {x : Tx} : x ∈ nearL es H p ↔ (x, p) ∈ es ∧ x ∈ H := by
  unfold nearL
  rw [List.mem_filterMap]
  constructor
  · rintro ⟨⟨a, b⟩, he, e⟩
    unfold nearF at e
    split at e
    · rename_i q
      cases e
      obtain ⟨q1, q2⟩ := q
      simp only at q1 q2
      subst q1
      exact ⟨he, q2⟩
    · cases e
  · rintro ⟨h1, h2⟩
    exact ⟨_, h1, by unfold nearF; rw [if_pos ⟨rfl, h2⟩]⟩
theorem mem_dedupG : ∀ {l : List Tx} {x : Tx}, x ∈ dedupT l ↔ x ∈ l
  | [], x => by simp [dedupT]
  | y :: r, x => by
    unfold dedupT
    split
    · rename_i q
      rw [mem_dedupG, List.mem_cons]
      refine ⟨.inr, fun h => h.elim (fun e => ?_) id⟩
      subst e
      simpa using q
    · rw [List.mem_cons, List.mem_cons, mem_dedupG]
theorem dedupG_nd : ∀ l : List Tx, (dedupT l).Nodup
  | [] => List.nodup_nil
  | y :: r => by
    unfold dedupT
    split
    · exact dedupG_nd r
    · rename_i q
      rw [List.nodup_cons]
      refine ⟨fun h => q ?_, dedupG_nd r⟩
      simpa using mem_dedupG.mp h
theorem dedupG_len : ∀ l : List Tx, (dedupT l).length ≤ l.length
  | [] => Nat.le_refl _
  | y :: r => by
    have := dedupG_len r
    unfold dedupT
    split <;> simp only [List.length_cons] <;> omega
/-- chains apart -/
structure Fam (es : List (Tx × Tx)) (starts : List Tx) (goal : Tx) (cs : List (List Tx)) : Prop where
  chain : ∀ c ∈ cs, Chain es starts goal c
  apart : Apart cs
theorem Fam.mono (f : Fam es' starts goal cs) (he : ∀ e ∈ es', e ∈ es) (hs : ∀ s ∈ starts, s ∈ seers) : Fam es seers goal cs :=
  ⟨fun c hc => (f.chain c hc).mono he hs, f.apart⟩
theorem Fam.near (f : Fam (within es H p) starts p cs) : cs.length ≤ (dedupT (nearL es H p)).length :=
  apart_le f.apart fun c hc => by
    have ch := f.chain c hc
    have l0 : 0 < c.length := List.length_pos_iff.mpr ch.ne
    have hz : c[c.length - 1]? = some (c[c.length - 1]'(by omega)) := List.getElem?_eq_getElem _
    have := ch.last (c.length - 1) _ (by omega) hz
    obtain ⟨h1, h2, _⟩ := mem_within.mp this
    exact ⟨_, List.getElem_mem _, mem_dedupG.mpr (mem_nearL.mpr ⟨h1, h2⟩)⟩
theorem Fam.met {cut : List Tx} (f : Fam es starts goal cs) (h : ¬ Meets es starts goal cut) : cs.length ≤ cut.length :=
  apart_le f.apart fun c hc => by
    obtain ⟨x, h1, h2, _⟩ := (f.chain c hc).met h
    exact ⟨x, h1, h2⟩
theorem Best.fam {cut : List Tx} (b : Best es starts goal cs cut) : Fam es starts goal cs := ⟨b.chain, b.apart⟩
/-- who holds it -/
inductive Hold (es : List (Tx × Tx)) (seers : List Tx) (needs : List (Tx × Nat)) : Tx → Prop
  | seer {p : Tx} (h : p ∈ seers) : Hold es seers needs p
  | step {p : Tx} {n : Nat} (H : List Tx) (cs : List (List Tx)) (hn : (p, n) ∈ needs) (hH : ∀ x ∈ H, Hold es seers needs x) (len : n ≤ cs.length) (fam : Fam (within es H p) seers p cs) : Hold es seers needs p
/-- rows of a ground: each from those ahead -/
inductive Rows (es : List (Tx × Tx)) (seers : List Tx) (needs : List (Tx × Nat)) : List (Tx × List (List Tx)) → Prop
  | nil : Rows es seers needs []
  | seer {a : List (Tx × List (List Tx))} {p : Tx} (h : Rows es seers needs a) (hp : p ∈ seers) (new : p ∉ a.map (·.1)) : Rows es seers needs (a ++ [(p, [])])
  | led {a : List (Tx × List (List Tx))} {p : Tx} {n : Nat} {cs : List (List Tx)} (h : Rows es seers needs a) (hp : p ∉ seers) (new : p ∉ a.map (·.1)) (hn : (p, n) ∈ needs) (fam : Fam (within es (a.map (·.1)) p) seers p cs) (len : cs.length = n) : Rows es seers needs (a ++ [(p, cs)])
theorem Rows.hold {rows : List (Tx × List (List Tx))} (r : Rows es seers needs rows) : ∀ x ∈ rows.map (·.1), Hold es seers needs x := by
  induction r with
  | nil => intro x hx; cases hx
  | seer h hp new ih =>
    intro x hx
    rw [List.map_append, List.mem_append] at hx
    rcases hx with hx | hx
    · exact ih x hx
    · simp only [List.map_cons, List.map_nil, List.mem_singleton] at hx
      subst hx
      exact .seer hp
  | led h hp new hn fam len ih =>
    intro x hx
    rw [List.map_append, List.mem_append] at hx
    rcases hx with hx | hx
    · exact ih x hx
    · simp only [List.map_cons, List.map_nil, List.mem_singleton] at hx
      subst hx
      exact .step _ _ hn ih (Nat.le_of_eq len.symm) fam
theorem Rows.nd {rows : List (Tx × List (List Tx))} (r : Rows es seers needs rows) : (rows.map (·.1)).Nodup := by
  have key : ∀ {a : List Tx} {p : Tx}, a.Nodup → p ∉ a → (a ++ [p]).Nodup := fun {a p} h1 h2 => by
    rw [List.nodup_append]
    refine ⟨h1, by simp, fun x hx y hy e => ?_⟩
    simp only [List.mem_singleton] at hy
    subst hy e
    exact h2 hx
  induction r with
  | nil => exact List.nodup_nil
  | seer h hp new ih =>
    rw [List.map_append]
    exact key ih new
  | led h hp new hn fam len ih =>
    rw [List.map_append]
    exact key ih new
/-- a row by itself -/
def RowOk (es : List (Tx × Tx)) (seers : List Tx) (needs : List (Tx × Nat)) (a : List (Tx × List (List Tx))) (r : Tx × List (List Tx)) : Prop :=
  r.1 ∉ a.map (·.1) ∧ ((r.1 ∈ seers ∧ r.2 = []) ∨ (r.1 ∉ seers ∧ ∃ n, (r.1, n) ∈ needs ∧ r.2.length = n ∧ Fam (within es (a.map (·.1)) r.1) seers r.1 r.2))
theorem Rows.at {rows : List (Tx × List (List Tx))} (h : Rows es seers needs rows) : ∀ (a : List (Tx × List (List Tx))) (r : Tx × List (List Tx)) (b : List (Tx × List (List Tx))), rows = a ++ r :: b → RowOk es seers needs a r := by
  have key : ∀ (a0 a : List (Tx × List (List Tx))) (r0 r : Tx × List (List Tx)) (b : List (Tx × List (List Tx))), a0 ++ [r0] = a ++ r :: b → (a0 = a ∧ r0 = r) ∨ ∃ b', a0 = a ++ r :: b' := by
    intro a0 a r0 r b e
    rcases List.eq_nil_or_concat b with rfl | ⟨b', z, rfl⟩
    · have := List.append_inj' e rfl
      exact .inl ⟨this.1, by simpa using this.2⟩
    · rw [List.concat_eq_append, ← List.cons_append, ← List.append_assoc] at e
      exact .inr ⟨b', (List.append_inj' e rfl).1⟩
  induction h with
  | nil => intro a r b e; simp at e
  | seer h hp new ih =>
    intro a r b e
    rcases key _ _ _ _ _ e with ⟨rfl, rfl⟩ | ⟨b', e'⟩
    · exact ⟨new, .inl ⟨hp, rfl⟩⟩
    · exact ih a r b' e'
  | led h hp new hn fam len ih =>
    intro a r b e
    rcases key _ _ _ _ _ e with ⟨rfl, rfl⟩ | ⟨b', e'⟩
    · exact ⟨new, .inr ⟨hp, _, hn, len, fam⟩⟩
    · exact ih a r b' e'
/-- everybody of the rows is come to from the seers, within them -/
theorem Rows.reach {y : Tx} {rows : List (Tx × List (List Tx))} (r : Rows es seers needs rows) (h1 : ∀ p n, (p, n) ∈ needs → 1 ≤ n) (hy : y ∉ H) (hH : ∀ x ∈ rows.map (·.1), x ∈ H) : ∀ x ∈ rows.map (·.1), Reach (within es H y) seers y [] x := by
  induction r with
  | nil => intro x hx; cases hx
  | @seer a p h hp new ih =>
    have hp2 : p ∈ H := hH p (by simp)
    intro x hx
    rw [List.map_append, List.mem_append] at hx
    rcases hx with hx | hx
    · exact ih (fun z hz => hH z (by rw [List.map_append, List.mem_append]; exact .inl hz)) x hx
    · simp only [List.map_cons, List.map_nil, List.mem_singleton] at hx
      subst hx
      exact .start hp (fun e => hy (e ▸ hp2)) (by simp)
  | @led a p n cs h hp new hn fam len ih =>
    have hp2 : p ∈ H := hH p (by simp)
    have ha : ∀ z ∈ a.map (·.1), z ∈ H := fun z hz => hH z (by rw [List.map_append, List.mem_append]; exact .inl hz)
    intro x hx
    rw [List.map_append, List.mem_append] at hx
    rcases hx with hx | hx
    · exact ih ha x hx
    · simp only [List.map_cons, List.map_nil, List.mem_singleton] at hx
      subst hx
      have n1 := h1 _ _ hn
      obtain ⟨c, hc⟩ : ∃ c, c ∈ cs := List.exists_mem_of_length_pos (by omega)
      have ch := fam.chain c hc
      have l0 : 0 < c.length := List.length_pos_iff.mpr ch.ne
      have hz : c[c.length - 1]? = some (c[c.length - 1]'(by omega)) := List.getElem?_eq_getElem _
      obtain ⟨e1, e2, _⟩ := mem_within.mp (ch.last (c.length - 1) _ (by omega) hz)
      exact .step (ih ha _ e2) (mem_within.mpr ⟨e1, ha _ e2, .inl hp2⟩) (fun e => hy (e ▸ hp2)) (by simp)
/-- what ground_by tells -/
structure Ground (es : List (Tx × Tx)) (seers : List Tx) (needs : List (Tx × Nat)) (names : List Tx) (rows : List (Tx × List (List Tx))) (cuts : List (Tx × List Tx)) : Prop where
  rws : Rows es seers needs rows
  seer : ∀ s ∈ seers, s ∈ rows.map (·.1)
  cutN : cuts.map (·.1) = (needs.map (·.1)).filter fun x => decide (x ∉ rows.map (·.1))
  cut : ∀ c ∈ cuts, ∃ n cs, (c.1, n) ∈ needs ∧ Best (within es (rows.map (·.1)) c.1) seers c.1 cs c.2 ∧ cs.length < n ∧ (∃ l : List Tx, c.2 = l.mergeSort leS) ∧ ∀ x ∈ c.2, x ∈ names
theorem key_one : ∀ {l : List (Tx × Nat)} {p : Tx} {n m : Nat}, (l.map (·.1)).Nodup → (p, n) ∈ l → (p, m) ∈ l → n = m
  | x :: r, p, n, m, nd, h1, h2 => by
    rw [List.map_cons, List.nodup_cons] at nd
    rcases List.mem_cons.mp h1 with e1 | h1
    · rcases List.mem_cons.mp h2 with e2 | h2
      · rw [← e1] at e2
        cases e2
        rfl
      · exact absurd (List.mem_map.mpr ⟨_, h2, by rw [← e1]⟩) nd.1
    · rcases List.mem_cons.mp h2 with e2 | h2
      · exact absurd (List.mem_map.mpr ⟨_, h1, by rw [← e2]⟩) nd.1
      · exact key_one nd.2 h1 h2
variable {names : List Tx} {rows rows' : List (Tx × List (List Tx))} {cuts cuts' : List (Tx × List Tx)}
theorem Ground.blocked (G : Ground es seers needs names rows cuts) (nd : (needs.map (·.1)).Nodup) {n : Nat} (hn : (p, n) ∈ needs) (hp : p ∉ rows.map (·.1)) : ∃ cut : List Tx, cut.length < n ∧ ¬ Meets (within es (rows.map (·.1)) p) seers p cut := by
  have : p ∈ cuts.map (·.1) := by
    rw [G.cutN, List.mem_filter]
    exact ⟨List.mem_map.mpr ⟨_, hn, rfl⟩, decide_eq_true hp⟩
  obtain ⟨c, hc, rfl⟩ := List.mem_map.mp this
  obtain ⟨m, cs, h1, h2, h3, _⟩ := G.cut c hc
  rw [key_one nd hn h1]
  exact ⟨c.2, by rw [h2.size]; exact h3, h2.meets⟩
theorem hold_in (hs : ∀ s ∈ seers, s ∈ H) (hb : ∀ p n, (p, n) ∈ needs → p ∉ H → ∃ cut : List Tx, cut.length < n ∧ ¬ Meets (within es H p) seers p cut) {x : Tx} (h : Hold es seers needs x) : x ∈ H := by
  induction h with
  | seer h => exact hs _ h
  | @step p n H' cs hn hH len fam ih =>
    refine Classical.byContradiction fun q => ?_
    obtain ⟨cut, h1, h2⟩ := hb p n hn q
    have := (fam.mono (within_mono (fun e he => he) ih) fun s hs => hs).met h2
    omega
theorem Ground.iff (G : Ground es seers needs names rows cuts) (nd : (needs.map (·.1)).Nodup) (x : Tx) : x ∈ rows.map (·.1) ↔ Hold es seers needs x :=
  ⟨G.rws.hold x, hold_in G.seer fun p n hn hp => G.blocked nd hn hp⟩
theorem Meets.mono {starts' cut : List Tx} (h : Meets es' starts' goal cut) (he : ∀ e ∈ es', e ∈ es) (hs : ∀ s ∈ starts', s ∈ starts) : Meets es starts goal cut := by
  obtain ⟨y, r, e⟩ := h
  refine ⟨y, ?_, he _ e⟩
  clear e
  induction r with
  | start h1 h2 h3 => exact .start (hs _ h1) h2 h3
  | step r e g c ih => exact .step ih (he _ e) g c
/-- fewer edges, fewer seers, greater needs: nobody more -/
theorem Ground.more (G : Ground es seers needs names rows cuts) (nd : (needs.map (·.1)).Nodup) (he : ∀ e ∈ es', e ∈ es) (hs : ∀ s ∈ seers', s ∈ seers) (hn : ∀ p n', (p, n') ∈ needs' → ∃ n, (p, n) ∈ needs ∧ n ≤ n') {x : Tx} (h : Hold es' seers' needs' x) : x ∈ rows.map (·.1) :=
  hold_in (fun s h => G.seer s (hs s h)) (fun p n' h1 h2 => by
    obtain ⟨n, h3, h4⟩ := hn p n' h1
    obtain ⟨cut, h5, h6⟩ := G.blocked nd h3 h2
    exact ⟨cut, by omega, fun m => h6 (m.mono (within_mono he fun x hx => hx) hs)⟩) h
end
end VI

/-! Gb: what edges_within, near_ones, apart_up_to, ground_by do in the evaluator (for any table that has these; results as trees). -/
namespace VI
def W_apart_up_to : Fn := ⟨4, 4,
 (.cons (.ret (.meth true "Web" "chains" (.idx (.call false "woven" (.cons (.var 0) (.cons (.var 1) (.cons (.var 2) (.cons (.var 3) .nil))))) (.cst (.int 0))) .nil))
 .nil)⟩
def W_edges_within_1 : IE := (.andE (.cmp .isIn (.idx (.var 3) (.cst (.int 0))) (.var 1)) (.orE (.cmp .isIn (.idx (.var 3) (.cst (.int 1))) (.var 1)) (.cmp .eq (.idx (.var 3) (.cst (.int 1))) (.var 2))))
def W_edges_within_2 : IE := (.var 3)
def W_edges_within : Fn := ⟨3, 4,
 (.cons (.ret (.lc false [3] (.var 3) (.seq (.var 0)) W_edges_within_1 W_edges_within_2))
 .nil)⟩
def W_near_ones_1 : IE := (.andE (.cmp .eq (.var 4) (.var 2)) (.cmp .isIn (.var 3) (.var 1)))
def W_near_ones_2 : IE := (.var 3)
def W_near_ones : Fn := ⟨3, 5,
 (.cons (.ret (.prim .sortedSet false (.cons (.lc false [3, 4] (.tup [3, 4]) (.seq (.var 0)) W_near_ones_1 W_near_ones_2) .nil)))
 .nil)⟩
def W_ground_by_1 : IE := (.cmp .isIn (.var 4) (.var 1))
def W_ground_by_2 : IE := (.tup (.cons (.var 4) (.cons (.lst false .nil) .nil)))
def W_ground_by_3 : ISs := (.cons (.asgI (.var 6) (.var 4) (.cst (.bl true)))
 .nil)
def W_ground_by_4 : IE := (.var 8)
def W_ground_by_5 : ISs := (.cons (.ifS (.andE (.cmp .notIn (.var 4) (.var 6)) (.cmp .ge (.prim .len false (.cons (.call true "near_ones" (.cons (.var 0) (.cons (.var 6) (.cons (.var 4) .nil)))) .nil)) (.var 5)))
 (.cons (.asg (.var 7) (.call true "apart_up_to" (.cons (.call true "edges_within" (.cons (.var 0) (.cons (.var 6) (.cons (.var 4) .nil)))) (.cons (.var 1) (.cons (.var 4) (.cons (.var 5) .nil))))))
 (.cons (.ifS (.cmp .eq (.prim .len false (.cons (.var 7) .nil)) (.var 5))
 (.cons (.expr (.prim .append false (.cons (.var 3) (.cons (.tup (.cons (.var 4) (.cons (.var 7) .nil))) .nil))))
 (.cons (.asgI (.var 6) (.var 4) (.cst (.bl true)))
 (.cons (.asg (.var 8) (.cst (.bl true)))
 .nil)))
 .nil)
 .nil))
 .nil)
 .nil)
def W_ground_by_6 : ISs := (.cons (.asg (.var 8) (.cst (.bl false)))
 (.cons (.forS (.tup [4, 5]) (.seq (.var 2)) W_ground_by_5)
 .nil))
def W_ground_by_7 : ISs := (.cons (.ifS (.cmp .notIn (.var 4) (.var 6))
 (.cons (.expr (.prim .append false (.cons (.var 9) (.cons (.tup (.cons (.var 4) (.cons (.idx (.call true "apart_chains" (.cons (.call true "edges_within" (.cons (.var 0) (.cons (.var 6) (.cons (.var 4) .nil)))) (.cons (.var 1) (.cons (.var 4) .nil)))) (.cst (.int 1))) .nil))) .nil))))
 .nil)
 .nil)
 .nil)
def W_ground_by : Fn := ⟨3, 10,
 (.cons (.asg (.var 3) (.lc true [4, 5] (.tup [4, 5]) (.seq (.var 2)) W_ground_by_1 W_ground_by_2))
 (.cons (.asg (.var 6) (.dnil true 0))
 (.cons (.forS (.tup [4, 7]) (.seq (.var 3)) W_ground_by_3)
 (.cons (.asg (.var 8) (.cst (.bl true)))
 (.cons (.whileS W_ground_by_4 W_ground_by_6)
 (.cons (.asg (.var 9) (.lst true .nil))
 (.cons (.forS (.tup [4, 5]) (.seq (.var 2)) W_ground_by_7)
 (.cons (.ret (.tup (.cons (.var 3) (.cons (.var 9) .nil))))
 .nil))))))))⟩
abbrev Rw := Tx × List (List Tx)
def needD (x : Tx × Nat) : D := .tup [.str x.1, .int (x.2 : Nat)]
def rowD (r : Rw) : D := .tup [.str r.1, .lst (r.2.map chD)]
def cutD (c : Tx × List Tx) : D := .tup [.str c.1, .lst (c.2.map .str)]
theorem closed_rowD (l : List Rw) : closedL (l.map rowD) = true := by
  induction l with
  | nil => rfl
  | cons x r ih => simp only [List.map_cons, closedL, Bool.and_eq_true]; exact ⟨by simp only [rowD, closed, closedL, closedL_chD, Bool.and_self], ih⟩
theorem closed_cutD (l : List (Tx × List Tx)) : closedL (l.map cutD) = true := by
  induction l with
  | nil => rfl
  | cons x r ih => simp only [List.map_cons, closedL, Bool.and_eq_true]; exact ⟨by simp only [cutD, closed, closedL, closed_strs, Bool.and_self], ih⟩
theorem closed_needD (l : List (Tx × Nat)) : closedL (l.map needD) = true := by
  induction l with
  | nil => rfl
  | cons x r ih => simp only [List.map_cons, closedL, Bool.and_eq_true]; exact ⟨by simp only [needD, closed, closedL, Bool.and_self], ih⟩
theorem forL_ty {α : Type} {turn : D → Rho → Store → Option RS} (g : α → D) (all : List α) (I : List α → Rho → Store → Prop)
    (st : ∀ d x r ρ U, all = d ++ x :: r → I d ρ U → ∃ ρ' U', turn (g x) ρ U = some (.nx ρ' U') ∧ I (d ++ [x]) ρ' U') :
    ∀ (r d : List α) ρ U, all = d ++ r → I d ρ U → ∃ ρ' U', forL turn (r.map g) ρ U = some (.nx ρ' U') ∧ I all ρ' U'
  | [], d, ρ, U, e, h => ⟨ρ, U, rfl, by rw [e, List.append_nil]; exact h⟩
  | x :: r, d, ρ, U, e, h => by
    obtain ⟨ρ', U', e1, h1⟩ := st d x r ρ U e h
    obtain ⟨ρ2, U2, e2, h2⟩ := forL_ty g all I st r (d ++ [x]) ρ' U' (by rw [e]; simp) h1
    refine ⟨ρ2, U2, ?_, h2⟩
    rw [List.map_cons, forL, e1, turnEnd_nx]
    exact e2
/-- .. over a list as a datum, or in the store: there and not touched -/
theorem forQ {α : Type} {turn : D → Rho → Store → Option RS} (g : α → D) (all : List α) {dd : D} {U0 : Store} (I : List α → Rho → Store → Prop) (hI : ∀ d ρ U, I d ρ U → U.take U0.length = U0) (hd : asL U0 dd = some (all.map g))
    (st : ∀ d x r ρ U, all = d ++ x :: r → I d ρ U → ∃ ρ' U', turn (g x) ρ U = some (.nx ρ' U') ∧ I (d ++ [x]) ρ' U') (ρ : Rho) (U : Store) (h : I [] ρ U) :
    ∃ src ρ' U', srcOf U dd = some src ∧ forGo src.fin turn src.get ρ U = some (.nx ρ' U') ∧ I all ρ' U' := by
  cases dd with
  | lst ys =>
    cases hd
    obtain ⟨ρ', U', e, hi⟩ := forL_ty (turn := turn) g all I st all [] ρ U rfl h
    exact ⟨_, ρ', U', rfl, by rw [forGo_fix]; exact e, hi⟩
  | ref n =>
    have hn : U0[n]? = some (.lst (all.map g)) := by
      simp only [asL] at hd
      split at hd
      · rename_i ys hn
        cases hd
        exact hn
      · cases hd
    have up : ∀ {V : Store}, V.take U0.length = U0 → V[n]? = some (.lst (all.map g)) := fun {V} e => by
      have ln := (List.getElem?_eq_some_iff.mp hn).1
      have h2 : (V.take U0.length)[n]? = V[n]? := by rw [List.getElem?_take, if_pos ln]
      rw [e] at h2
      rw [← h2, hn]
    rcases forLive (turn := turn) (n := n) g all I (fun d ρ V hV => up (hI d ρ V hV)) (fun _ => False) (fun d x r ρ V e hV => .inl (st d x r ρ V e hV)) ρ U h with ⟨ρ', U', e, hi⟩ | ⟨_, _, _, q⟩
    · have hU := up (hI _ _ _ h)
      exact ⟨_, ρ', U', by simp only [srcOf, hU], e, hi⟩
    · exact q.elim
  | _ => simp [asL] at hd
theorem idxT0 {x : D} {xs : List D} {U : Store} : index1 (.tup (x :: xs)) (.int 0) U = some (.ok x U) := by
  simp [index1, asQ, atI, ixN]
theorem idxT1 {x y : D} {xs : List D} {U : Store} : index1 (.tup (x :: y :: xs)) (.int 1) U = some (.ok y U) := by
  have : ixN (x :: y :: xs).length 1 = some 1 := by
    unfold ixN
    simp only [List.length_cons]
    rw [if_pos (by decide), if_pos (by omega)]
    rfl
  simp only [index1, asQ, atI, this, Option.bind_some, List.getElem?_cons_succ, List.getElem?_cons_zero]
section
variable {Γ : Tab} {U : Store} {names seers starts : List Tx} {es : List (Tx × Tx)} {goal p : Tx} {H : List Tx} {h : Nat}
theorem r_near (hΓ : Γ "near_ones" = some W_near_ones) (k : Nat) (hU : U[h]? = some (.dct 0 (trueD H))) {de : D} (hde : asL U de = some (edD es)) (hz : es.length ≤ 4000) :
    frz true U (run Γ (k + 1) "near_ones" [de, .ref h, .str p] U) = some (.ok (.lst (((dedupT (nearL es H p)).mergeSort leS).map .str)) U) := by
  have z0 : (4000 : Nat) < SZ := by decide
  have turn : ∀ e ∈ es, turnL (.tup [3, 4]) (evB (run Γ k) W_near_ones_1) (ev (run Γ k) W_near_ones_2) (wipe [some de, some (.ref h), some (.str p), none, none] [3, 4]) (eD e) U = some (.ok ((nearF H p e).map .str) U) := by
    rintro ⟨a, b⟩ _
    have hm : member U (.str a) (.ref h) = some (decide (a ∈ H)) := mem_true a hU
    have w0 : setAll (wipe [some de, some (.ref h), some (.str p), none, none] [3, 4]) [3, 4] [.str a, .str b] = some [some de, some (.ref h), some (.str p), some (.str a), some (.str b)] := rfl
    by_cases q1 : b = p
    · subst q1
      by_cases q2 : a ∈ H
      · have : nearF H b (a, b) = some a := by unfold nearF; rw [if_pos ⟨rfl, q2⟩]
        simp only [this, turnL, asgT, eD, asQ, w0, W_near_ones_1, W_near_ones_2, evB, ev, List.getElem?_cons_zero, List.getElem?_cons_succ, bnd_ok, cmp_eq_str, decide_true, tru_bl, if_true, cmp_in, hm, q2, Option.map_some, ret_eq, noEx_ok]
      · have : nearF H b (a, b) = none := by unfold nearF; rw [if_neg fun z => q2 z.2]
        simp only [this, turnL, asgT, eD, asQ, w0, W_near_ones_1, W_near_ones_2, evB, ev, List.getElem?_cons_zero, List.getElem?_cons_succ, bnd_ok, cmp_eq_str, decide_true, decide_false, tru_bl, if_true, cmp_in, hm, q2, Option.map_none, ret_eq, noEx_ok, Bool.false_eq_true, if_false]
    · have : nearF H p (a, b) = none := by unfold nearF; rw [if_neg fun z => q1 z.1]
      simp only [this, turnL, asgT, eD, asQ, w0, W_near_ones_1, W_near_ones_2, evB, ev, List.getElem?_cons_zero, List.getElem?_cons_succ, bnd_ok, cmp_eq_str, q1, decide_false, tru_bl, Bool.false_eq_true, if_false, Option.map_none, ret_eq, noEx_ok]
  have e5 := lcL_fm eD (fun e => (nearF H p e).map D.str) es turn
  have fm : es.filterMap (fun e => (nearF H p e).map D.str) = (nearL es H p).map .str := by
    unfold nearL
    rw [List.map_filterMap]
  rw [fm] at e5
  have hl : (nearL es H p).length ≤ 4000 := Nat.le_trans (List.length_filterMap_le _ _) hz
  obtain ⟨src, g1, g2, g3, g4⟩ := lcSeq (turn := turnL (.tup [3, 4]) (evB (run Γ k) W_near_ones_1) (ev (run Γ k) W_near_ones_2) (wipe [some de, some (.ref h), some (.str p), none, none] [3, 4])) hde fun x hx => by
    obtain ⟨e, he, rfl⟩ := List.mem_map.mp hx
    exact ⟨_, turn e he⟩
  have nz : ¬ SZ < src.get.length := by
    rw [g2, edD, List.length_map]
    omega
  have so := sort_strs (dedupT (nearL es H p))
  have e5' : lcL (turnL (.tup [3, 4]) (evB (run Γ k) W_near_ones_1) (ev (run Γ k) W_near_ones_2) (wipe [some de, some (.ref h), some (.str p), none, none] [3, 4])) (edD es) U = some (.ok ((nearL es H p).map .str) U) := e5
  have pr : prim .sortedSet false [.lst ((nearL es H p).map .str)] U = some (.ok (.lst (((dedupT (nearL es H p)).mergeSort leS).map .str)) U) := by
    simp only [prim, asL, texts_strs, if_pos hl, so, mkL, Bool.false_eq_true, if_false]
  have e6 : run Γ (k + 1) "near_ones" [de, .ref h, .str p] U = some (.ok (.lst (((dedupT (nearL es H p)).mergeSort leS).map .str)) U) := by
    rw [run_at hΓ rfl]
    simp only [W_near_ones, startR, List.map_cons, List.map_nil, List.replicate, List.cons_append, List.nil_append, Nat.reduceSub]
    simp only [execs, exec, ev, evs, evIt, List.getElem?_cons_zero, bnd_ok, g1, if_neg nz, g4, e5', g3, if_true, mkL, Bool.false_eq_true, if_false, recvOk, pr, bndS_ok, thn_rt, fin_rt]
  rw [e6]
  exact frz_closed (by simp only [closed, closed_strs])
theorem fm_within (l : List (Tx × Tx)) : l.filterMap (fun e => if decide (e.1 ∈ H) && (decide (e.2 ∈ H) || decide (e.2 = p)) then some (eD e) else none) = edD (within l H p) := by
  unfold within edD
  induction l with
  | nil => rfl
  | cons x r ih =>
    rw [List.filterMap_cons, List.filter_cons]
    by_cases q : (decide (x.1 ∈ H) && (decide (x.2 ∈ H) || decide (x.2 = p))) = true
    · simp only [q, if_true, List.map_cons, ih]
    · simp only [q, Bool.false_eq_true, if_false, ih]
theorem r_within (hΓ : Γ "edges_within" = some W_edges_within) (k : Nat) (hU : U[h]? = some (.dct 0 (trueD H))) {de : D} (hde : asL U de = some (edD es)) (hz : es.length ≤ 4000) :
    frz true U (run Γ (k + 1) "edges_within" [de, .ref h, .str p] U) = some (.ok (.lst (edD (within es H p))) U) := by
  have z0 : (4000 : Nat) < SZ := by decide
  have turn : ∀ e ∈ es, turnL (.var 3) (evB (run Γ k) W_edges_within_1) (ev (run Γ k) W_edges_within_2) (wipe [some de, some (.ref h), some (.str p), none] [3]) (eD e) U = some (.ok (if decide (e.1 ∈ H) && (decide (e.2 ∈ H) || decide (e.2 = p)) then some (eD e) else none) U) := by
    rintro ⟨a, b⟩ _
    have ma : member U (.str a) (.ref h) = some (decide (a ∈ H)) := mem_true a hU
    have mb : member U (.str b) (.ref h) = some (decide (b ∈ H)) := mem_true b hU
    have w0 : (wipe [some de, some (.ref h), some (.str p), none] [3]).set 3 (some (eD (a, b))) = [some de, some (.ref h), some (.str p), some (eD (a, b))] := rfl
    have i0 : index1 (eD (a, b)) (.int 0) U = some (.ok (.str a) U) := idxT0
    have i1 : index1 (eD (a, b)) (.int 1) U = some (.ok (.str b) U) := idxT1
    by_cases q1 : a ∈ H
    · by_cases q2 : b ∈ H
      · simp only [turnL, asgT, w0, W_edges_within_1, W_edges_within_2, evB, ev, List.getElem?_cons_zero, List.getElem?_cons_succ, bnd_ok, i0, i1, cmp_in, ma, mb, q1, q2, decide_true, tru_bl, if_true, Bool.true_or, Bool.and_self, ret_eq, noEx_ok]
      · by_cases q3 : b = p
        · subst q3
          simp only [turnL, asgT, w0, W_edges_within_1, W_edges_within_2, evB, ev, List.getElem?_cons_zero, List.getElem?_cons_succ, bnd_ok, i0, i1, cmp_in, ma, mb, q1, q2, decide_true, decide_false, tru_bl, if_true, Bool.false_eq_true, if_false, cmp_eq_str, Bool.or_true, Bool.and_self, ret_eq, noEx_ok]
        · simp only [turnL, asgT, w0, W_edges_within_1, W_edges_within_2, evB, ev, List.getElem?_cons_zero, List.getElem?_cons_succ, bnd_ok, i0, i1, cmp_in, ma, mb, q1, q2, q3, decide_true, decide_false, tru_bl, if_true, Bool.false_eq_true, if_false, cmp_eq_str, Bool.or_self, Bool.and_false, ret_eq, noEx_ok]
    · simp only [turnL, asgT, w0, W_edges_within_1, W_edges_within_2, evB, ev, List.getElem?_cons_zero, List.getElem?_cons_succ, bnd_ok, i0, cmp_in, ma, q1, decide_false, tru_bl, Bool.false_eq_true, if_false, Bool.false_and, ret_eq, noEx_ok]
  have e5 := lcL_fm eD (fun e => if decide (e.1 ∈ H) && (decide (e.2 ∈ H) || decide (e.2 = p)) then some (eD e) else none) es turn
  rw [fm_within] at e5
  obtain ⟨src, g1, g2, g3, g4⟩ := lcSeq (turn := turnL (.var 3) (evB (run Γ k) W_edges_within_1) (ev (run Γ k) W_edges_within_2) (wipe [some de, some (.ref h), some (.str p), none] [3])) hde fun x hx => by
    obtain ⟨e, he, rfl⟩ := List.mem_map.mp hx
    exact ⟨_, turn e he⟩
  have nz : ¬ SZ < src.get.length := by
    rw [g2, edD, List.length_map]
    omega
  have e5' : lcL (turnL (.var 3) (evB (run Γ k) W_edges_within_1) (ev (run Γ k) W_edges_within_2) (wipe [some de, some (.ref h), some (.str p), none] [3])) (edD es) U = some (.ok (edD (within es H p)) U) := e5
  have e6 : run Γ (k + 1) "edges_within" [de, .ref h, .str p] U = some (.ok (.lst (edD (within es H p))) U) := by
    rw [run_at hΓ rfl]
    simp only [W_edges_within, startR, List.map_cons, List.map_nil, List.replicate, List.cons_append, List.nil_append, Nat.reduceSub]
    simp only [execs, exec, ev, evs, evIt, List.getElem?_cons_zero, bnd_ok, g1, if_neg nz, g4, e5', g3, if_true, mkL, Bool.false_eq_true, if_false, bndS_ok, thn_rt, fin_rt]
  rw [e6]
  exact frz_closed (by simp only [closed, closed_edD])
theorem best_of {U0 V : Store} {ks : List Kn} {arcs us ps : List (Kn × Kn)} {i : Nat} {cs : List (List Tx)} (G : Given names starts es) (W : Wd U0 V goal starts es names ks arcs us) (ri : RI ks (LA arcs) (BA arcs) us ps i) (rg : i = ps.length ∨ Kn.inn goal ∈ ps.map (·.1)) (ng : Kn.inn goal ∉ ps.map (·.1)) (C : Chains (Fu us) goal cs) :
    Best es starts goal cs (cutL (ps.map (·.1))) := by
  have N := W.net
  have ie : i = ps.length := rg.resolve_right ng
  have kn : ∀ x, Kn.inn x ∈ ks → x ∈ names := fun x hx => in_knots (W.kin _ hx)
  have seen : Seen (fun h t => t ∈ LA arcs h) (Fu us) goal (fun k => k ∈ ps.map (·.1)) := by
    refine ⟨?_, fun h t hh r => ?_, ng, fun x hx hxg => ?_⟩
    · exact List.mem_map.mpr ⟨_, List.mem_of_getElem? ri.hd, rfl⟩
    · obtain ⟨⟨h', p⟩, hp, rfl⟩ := List.mem_map.mp hh
      obtain ⟨j, hj, ej⟩ := List.mem_iff_getElem.mp hp
      exact ri.done j (by omega) h' p (by rw [List.getElem?_eq_getElem hj, ej]) t (stepsL_mem W.fl r)
    · obtain ⟨⟨k', p⟩, hp, e⟩ := List.mem_map.mp hx
      simp only at e
      subst e
      obtain ⟨j, hj, ej⟩ := List.mem_iff_getElem.mp hp
      have gj : ps[j]? = some (.inn x, p) := by rw [List.getElem?_eq_getElem hj, ej]
      cases j with
      | zero =>
        rw [ri.hd] at gj
        cases gj
      | succ j =>
        obtain ⟨_, hs⟩ := ri.par j _ _ gj
        rcases mem_stepsL hs with ⟨h1, _⟩ | h1
        · exact N.ex _ _ h1 hxg
        · have h2 := W.fl.sub _ _ h1
          obtain ⟨rfl, _⟩ := N.io x _ h2
          exact h2
  have hcut : ∀ x, x ∈ cutL (ps.map (·.1)) ↔ Kn.inn x ∈ ps.map (·.1) ∧ ¬ Kn.out x ∈ ps.map (·.1) := fun x => mem_cutL
  have cnd := cutL_nd ri.nd
  have cin : ∀ x ∈ cutL (ps.map (·.1)), x ∈ names := fun x hx => by
    obtain ⟨p, hp, e⟩ := List.mem_map.mp (mem_cutL.mp hx).1
    exact kn x (e ▸ ri.sub p hp)
  exact ⟨fun c hc => (C.full c hc).chain N W.fl, C.apart, cnd, cut_size (names := names) N W.fl seen hcut cnd (fun h y hy _ => kn y (W.sub _ (mem_LA.mp hy)).2) cin C, fun h => ng ((hcut goal).mp h).1, cut_meets N seen hcut⟩
theorem r_upto (T : HasWeb Γ) (hA : Γ "apart_up_to" = some W_apart_up_to) (G : Given names starts es) (d : Nat) (U0 : Store) {n : Nat} (hn : n < 900000) :
    ∃ cs : List (List Tx), Fam es starts goal cs ∧ cs.length ≤ n ∧ (cs.length < n → ∃ cut, Best es starts goal cs cut) ∧
      frz true U0 (run Γ (d + 4) "apart_up_to" [.lst (edD es), .lst (starts.map .str), .str goal, .int n] U0) = some (.ok (.lst (cs.map chD)) U0) := by
  have gf := G.few
  obtain ⟨V, ks, arcs, us, ps, i, W, ri, rg, hg, hle, e1⟩ := r_woven (goal := goal) T.core G d U0 n hn
  obtain ⟨a, b, c, la, lb, w, gc⟩ := W.w
  obtain ⟨cs, C, hc, e2⟩ := r_chains T.behind T.chains (d + 1) w W.net W.fl W.src (fun h t ht => W.sub _ (mem_LA.mp ht)) (fun k hk => knots_small G.sm k (W.kin k hk)) (fun x hx _ => in_knots (W.kin _ hx)) (by omega) (LA_nd W.nd) (by have := (W.llen .src).1; omega)
  have pm := List.mergeSort_perm cs leC
  have hcn : cs.length = count arcs us := hc
  refine ⟨cs.mergeSort leC, ⟨fun c hc => (C.full c (pm.mem_iff.mp hc)).chain W.net W.fl, ?_⟩, by rw [pm.length_eq, hcn]; exact hle, fun lt => ?_, ?_⟩
  · unfold Apart
    exact (List.Perm.pairwise_iff (fun {x y} h z hz hz' => h z hz' hz) pm).mpr C.apart
  · rw [pm.length_eq, hcn] at lt
    have ng : Kn.inn goal ∉ ps.map (·.1) := fun q => by
      have := (hg q).1
      omega
    exact ⟨_, (best_of G W ri rg ng C).perm pm (List.Perm.refl _)⟩
  · have e2' : frz true V (run Γ (d + 3) ("Web" ++ "." ++ "chains") [.ref U0.length] V) = some (.ok (.lst ((cs.mergeSort leC).map chD)) V) := e2
    have e3 : run Γ (d + 4) "apart_up_to" [.lst (edD es), .lst (starts.map .str), .str goal, .int n] U0 = some (.ok (.lst ((cs.mergeSort leC).map chD)) V) := by
      rw [run_at hA rfl]
      simp only [W_apart_up_to, startR, List.map_cons, List.map_nil, List.replicate, List.cons_append, List.nil_append, Nat.reduceSub, List.append_nil]
      simp only [execs, exec, ev, evs, List.getElem?_cons_zero, List.getElem?_cons_succ, bnd_ok, frz, Bool.false_eq_true, if_false, e1, idxT0, w.obj, if_true]
      have e2'' := e2'
      unfold frz at e2''
      simp only [if_true] at e2''
      rw [e2'']
      simp only [bndS_ok, thn_rt, fin_rt]
    rw [e3]
    exact frz_take (by simp only [closed, closedL_chD]) W.pre
end
end VI

/-! Gc: ground_by walked (results as trees). -/
namespace VI
structure HasGround (Γ : Tab) : Prop where
  web : HasWeb Γ
  upto : Γ "apart_up_to" = some W_apart_up_to
  apart : Γ "apart_chains" = some W_apart_chains
  within : Γ "edges_within" = some W_edges_within
  near : Γ "near_ones" = some W_near_ones
  ground : Γ "ground_by" = some W_ground_by
structure GGiven (names seers : List Tx) (es : List (Tx × Tx)) (needs : List (Tx × Nat)) : Prop where
  g : Given names seers es
  fe : es.length ≤ 4000
  keys : (needs.map (·.1)).Nodup
  kn : ∀ x ∈ needs, x.1 ∈ names
  big : ∀ x ∈ needs, x.2 < 900000
  seer : ∀ s ∈ seers, s ∈ needs.map (·.1)
def GS (U0 : Store) (rows : List Rw) : Store := U0 ++ [.lst (rows.map rowD), .dct 0 (trueD (rows.map (·.1)))]
section
variable {Γ : Tab} {U0 : Store} {names seers : List Tx} {es : List (Tx × Tx)} {needs : List (Tx × Nat)} {rows : List Rw} {p : Tx} {n : Nat}
theorem gs_g {J : Store} : (GS U0 rows ++ J)[U0.length]? = some (.lst (rows.map rowD)) := by
  unfold GS
  rw [List.append_assoc, List.getElem?_append_right (Nat.le_refl _)]
  simp
theorem gs_h {J : Store} : (GS U0 rows ++ J)[U0.length + 1]? = some (.dct 0 (trueD (rows.map (·.1)))) := by
  unfold GS
  rw [List.append_assoc, List.getElem?_append_right (by omega)]
  simp
theorem gs_g0 : (GS U0 rows)[U0.length]? = some (.lst (rows.map rowD)) := by
  have := gs_g (U0 := U0) (rows := rows) (J := [])
  rwa [List.append_nil] at this
theorem gs_h0 : (GS U0 rows)[U0.length + 1]? = some (.dct 0 (trueD (rows.map (·.1)))) := by
  have := gs_h (U0 := U0) (rows := rows) (J := [])
  rwa [List.append_nil] at this
theorem asL_gs {d : D} {xs : List D} (h : asL U0 d = some xs) : asL (GS U0 rows) d = some xs := asL_app h
theorem tk_gs {J : Store} : (GS U0 rows ++ J).take U0.length = U0 := by
  unfold GS
  rw [List.append_assoc]
  simp
theorem rs_pairG {W : Store} {n0 : Nat} {a b a' b' : D} (ha : rs W n0 a = some a') (hb : rs W n0 b = some b') : rs W n0 (.tup [a, b]) = some (.tup [a', b']) := by
  unfold rs at ha hb ⊢
  simp only [rsv, rsvL, ha, hb, Option.map_some]
/-- a row put in -/
theorem gs_append (r : Rw) (hl : rows.length < SZ) : prim .append false [.ref U0.length, rowD r] (GS U0 rows) = some (.ok .non (U0 ++ [.lst ((rows ++ [r]).map rowD), .dct 0 (trueD (rows.map (·.1)))])) := by
  have h1 : (rows.map rowD).length < SZ := by rw [List.length_map]; exact hl
  have h2 : updS (GS U0 rows) U0.length (.lst (rows.map rowD ++ [rowD r])) = U0 ++ [.lst ((rows ++ [r]).map rowD), .dct 0 (trueD (rows.map (·.1)))] := by
    unfold updS GS
    rw [List.set_append_right _ _ (Nat.le_refl _)]
    simp
  simp only [prim, gs_g0, h1, if_true, h2]
theorem gs_recv : recvOk .append (GS U0 rows) (.ref U0.length) = true := by
  simp only [recvOk, asL, gs_g0, Option.isSome_some]
theorem gs_put {X : List D} {l : List Tx} (x : Tx) (hl : l.length < SZ) (hx : x ∉ l) : setIx (.ref (U0.length + 1)) (.str x) (.bl true) (U0 ++ [.lst X, .dct 0 (trueD l)]) = some (.ok () (U0 ++ [.lst X, .dct 0 (trueD (l ++ [x]))])) := by
  have h0 : (U0 ++ [MO.lst X, .dct 0 (trueD l)])[U0.length + 1]? = some (.dct 0 (trueD l)) := by
    rw [List.getElem?_append_right (by omega)]
    simp
  have h1 : (trueD l).length < SZ := by simpa [trueD] using hl
  have h2 : updS (U0 ++ [MO.lst X, .dct 0 (trueD l)]) (U0.length + 1) (.dct 0 (trueD (l ++ [x]))) = U0 ++ [.lst X, .dct 0 (trueD (l ++ [x]))] := by
    unfold updS
    rw [List.set_append_right _ _ (by omega)]
    simp
  have h3 : put1 l x = l ++ [x] := by unfold put1; rw [if_neg hx]
  simp only [setIx, h0, keyFor, flatK, h1, and_self, if_true, put_true, h3, h2]
theorem gl_len {l : List Tx} (nd : l.Nodup) (hn : ∀ x ∈ l, x ∈ names) (G : Given names seers es) : l.length < 100 := Nat.lt_of_le_of_lt (nodup_le nd hn) G.few
/-- nobody more is led to p -/
def Shut (es : List (Tx × Tx)) (seers H : List Tx) (x : Tx × Nat) : Prop := x.1 ∈ H ∨ ∀ cs, Fam (within es H x.1) seers x.1 cs → cs.length < x.2
abbrev gR (de : D) (seers : List Tx) (dn : D) (U0 : Store) (o4 o5 o7 o8 o9 : Option D) : Rho := [some de, some (.lst (seers.map .str)), some dn, some (.ref U0.length), o4, o5, some (.ref (U0.length + 1)), o7, o8, o9]
theorem ground_turn (T : HasGround Γ) (G : GGiven names seers es needs) {de dn : D} (hde : asL U0 de = some (edD es)) (hdn : asL U0 dn = some (needs.map needD)) (d : Nat) (R : Rows es seers needs rows) (sr : ∀ s ∈ seers, s ∈ rows.map (·.1)) (rn : ∀ x ∈ rows.map (·.1), x ∈ names) (hn : (p, n) ∈ needs) (gr : Bool) (o4 o5 o7 : Option D) :
    (∃ o7', turnF (.tup [4, 5]) (execs (run Γ (d + 4)) W_ground_by_5) (needD (p, n)) (gR de seers dn U0 o4 o5 o7 (some (.bl gr)) none) (GS U0 rows) = some (.nx (gR de seers dn U0 (some (.str p)) (some (.int n)) o7' (some (.bl gr)) none) (GS U0 rows)) ∧ Shut es seers (rows.map (·.1)) (p, n)) ∨
    ∃ cs o7', turnF (.tup [4, 5]) (execs (run Γ (d + 4)) W_ground_by_5) (needD (p, n)) (gR de seers dn U0 o4 o5 o7 (some (.bl gr)) none) (GS U0 rows) = some (.nx (gR de seers dn U0 (some (.str p)) (some (.int n)) o7' (some (.bl true)) none) (GS U0 (rows ++ [(p, cs)]))) ∧ Rows es seers needs (rows ++ [(p, cs)]) := by
  have z0 : (4000 : Nat) < SZ := by decide
  have hp : member (GS U0 rows) (.str p) (.ref (U0.length + 1)) = some (decide (p ∈ rows.map (·.1))) := mem_true p gs_h0
  have hl : (rows.map (·.1)).length < 100 := gl_len R.nd rn G.g
  have hl2 : rows.length < 100 := by rw [List.length_map] at hl; exact hl
  have hb := G.big _ hn
  have a0 : asgT (GS U0 rows) (.tup [4, 5]) (needD (p, n)) (gR de seers dn U0 o4 o5 o7 (some (.bl gr)) none) = some (gR de seers dn U0 (some (.str p)) (some (.int n)) o7 (some (.bl gr)) none) := rfl
  unfold turnF
  rw [a0]
  simp only
  by_cases q : p ∈ rows.map (·.1)
  · refine .inl ⟨o7, ?_, .inl q⟩
    simp only [W_ground_by_5, execs, exec, evB, ev, List.getElem?_cons_zero, List.getElem?_cons_succ, bnd_ok, cmp_notIn, hp, q, decide_true, Option.map_some, Bool.not_true, tru_bl, Bool.false_eq_true, if_false, bndS_ok, thn_nx]
  · have f1 := r_near (p := p) (es := es) T.near (d + 3) (gs_h0 (U0 := U0) (rows := rows)) (asL_gs hde) G.fe
    have n1 := asL_len (U := GS U0 rows) (d := .lst (((dedupT (nearL es (rows.map (·.1)) p)).mergeSort leS).map .str)) (xs := ((dedupT (nearL es (rows.map (·.1)) p)).mergeSort leS).map .str) rfl
    rw [List.length_map, (List.mergeSort_perm _ _).length_eq] at n1
    by_cases q2 : n ≤ (dedupT (nearL es (rows.map (·.1)) p)).length
    · have d2 : decide ((n : Int) ≤ ((dedupT (nearL es (rows.map (·.1)) p)).length : Int)) = true := by
        rw [decide_eq_true_eq]; omega
      have f2 := r_within (p := p) (es := es) T.within (d + 3) (gs_h0 (U0 := U0) (rows := rows)) (asL_gs hde) G.fe
      obtain ⟨cs, fam, le, bst, f3⟩ := r_upto (goal := p) T.web T.upto (G.g.sub (List.Sublist.refl _) (within_sub (H := rows.map (·.1)) (p := p))) d (GS U0 rows) hb
      have n3 := asL_len (U := GS U0 rows) (d := .lst (cs.map chD)) (xs := cs.map chD) rfl
      rw [List.length_map] at n3
      by_cases q3 : cs.length = n
      · refine .inr ⟨cs, some (.lst (cs.map chD)), ?_, .led R (fun h => q (sr p h)) q hn fam q3⟩
        have ap := gs_append (U0 := U0) (rows := rows) (p, cs) (by omega)
        have ap' : prim .append false [.ref U0.length, .tup [.str p, .lst (cs.map chD)]] (GS U0 rows) = some (.ok .non (U0 ++ [.lst ((rows ++ [(p, cs)]).map rowD), .dct 0 (trueD (rows.map (·.1)))])) := ap
        have pu := gs_put (U0 := U0) (X := (rows ++ [(p, cs)]).map rowD) p (by omega) q
        have e9 : U0 ++ [MO.lst ((rows ++ [(p, cs)]).map rowD), .dct 0 (trueD (rows.map (·.1) ++ [p]))] = GS U0 (rows ++ [(p, cs)]) := by
          unfold GS
          rw [show (rows ++ [(p, cs)]).map (·.1) = rows.map (·.1) ++ [p] by simp]
        rw [e9] at pu
        have d3 : decide ((cs.length : Int) = (n : Int)) = true := by rw [decide_eq_true_eq]; omega
        simp only [W_ground_by_5, execs, exec, evB, ev, evs, List.getElem?_cons_zero, List.getElem?_cons_succ, List.set_cons_zero, List.set_cons_succ, bnd_ok, cmp_notIn, hp, q, decide_false, Option.map_some, Bool.not_false, tru_bl, if_true, f1, recvOk, n1, cmp_ge_int, d2, bndS_ok, f2, f3, asgT, thn_nx, n3, cmp_eq_int, d3, asL, gs_g0, Option.isSome_some, ap', pu]
      · refine .inl ⟨some (.lst (cs.map chD)), ?_, .inr fun cs' fam' => ?_⟩
        · have d3 : decide ((cs.length : Int) = (n : Int)) = false := by rw [decide_eq_false_iff_not]; omega
          simp only [W_ground_by_5, execs, exec, evB, ev, evs, List.getElem?_cons_zero, List.getElem?_cons_succ, List.set_cons_zero, List.set_cons_succ, bnd_ok, cmp_notIn, hp, q, decide_false, Option.map_some, Bool.not_false, tru_bl, if_true, f1, recvOk, n1, cmp_ge_int, d2, bndS_ok, f2, f3, asgT, thn_nx, n3, cmp_eq_int, d3, Bool.false_eq_true, if_false]
        · obtain ⟨cut, b⟩ := bst (by omega)
          have := b.few fam'.chain fam'.apart
          simp only at this ⊢
          omega
    · have d2 : decide ((n : Int) ≤ ((dedupT (nearL es (rows.map (·.1)) p)).length : Int)) = false := by
        rw [decide_eq_false_iff_not]; omega
      refine .inl ⟨o7, ?_, .inr fun cs' fam' => ?_⟩
      · simp only [W_ground_by_5, execs, exec, evB, ev, evs, List.getElem?_cons_zero, List.getElem?_cons_succ, List.set_cons_zero, List.set_cons_succ, bnd_ok, cmp_notIn, hp, q, decide_false, Option.map_some, Bool.not_false, tru_bl, if_true, f1, recvOk, n1, cmp_ge_int, d2, bndS_ok, Bool.false_eq_true, if_false, thn_nx]
      · have := fam'.near
        simp only at this ⊢
        omega
/-- one pass -/
theorem ground_pass (T : HasGround Γ) (G : GGiven names seers es needs) {de dn : D} (hde : asL U0 de = some (edD es)) (hdn : asL U0 dn = some (needs.map needD)) (d : Nat) (R : Rows es seers needs rows) (sr : ∀ s ∈ seers, s ∈ rows.map (·.1)) (rn : ∀ x ∈ rows.map (·.1), x ∈ names) (o4 o5 o7 : Option D) :
    ∃ more o4' o5' o7', exec (run Γ (d + 4)) (.forS (.tup [4, 5]) (.seq (.var 2)) W_ground_by_5) (gR de seers dn U0 o4 o5 o7 (some (.bl false)) none) (GS U0 rows) = some (.nx (gR de seers dn U0 o4' o5' o7' (some (.bl (!more.isEmpty))) none) (GS U0 (rows ++ more))) ∧
      Rows es seers needs (rows ++ more) ∧ (∀ x ∈ (rows ++ more).map (·.1), x ∈ names) ∧ (more = [] → ∀ x ∈ needs, Shut es seers (rows.map (·.1)) x) := by
  obtain ⟨src, ρ', U', es0, e, more, o4', o5', o7', R', rn', rfl, rfl, sh⟩ := forQ needD needs (dd := dn) (U0 := U0)
    (turn := turnF (.tup [4, 5]) (execs (run Γ (d + 4)) W_ground_by_5))
    (fun dn' ρ U => ∃ more o4 o5 o7, Rows es seers needs (rows ++ more) ∧ (∀ x ∈ (rows ++ more).map (·.1), x ∈ names) ∧ ρ = gR de seers dn U0 o4 o5 o7 (some (.bl (!more.isEmpty))) none ∧ U = GS U0 (rows ++ more) ∧ (more = [] → ∀ x ∈ dn', Shut es seers (rows.map (·.1)) x))
    (fun dn' ρ U ⟨more, o4, o5, o7, _, _, _, hU, _⟩ => by
      subst hU
      have := tk_gs (U0 := U0) (rows := rows ++ more) (J := [])
      rwa [List.append_nil] at this) hdn
    (fun dn' x r ρ U e ⟨more, o4, o5, o7, R1, rn1, hρ, hU, sh⟩ => by
      subst hρ hU
      obtain ⟨p, n⟩ := x
      have hm : (p, n) ∈ needs := by rw [e]; simp
      rcases ground_turn (U0 := U0) T G hde hdn d R1 (fun s hs => by rw [List.map_append, List.mem_append]; exact .inl (sr s hs)) rn1 hm (!more.isEmpty) o4 o5 o7 with ⟨o7', e1, s1⟩ | ⟨cs, o7', e1, s1⟩
      · refine ⟨_, _, e1, more, some (.str p), some (.int n), o7', R1, rn1, rfl, rfl, fun hm x hx => ?_⟩
        subst hm
        rw [List.append_nil] at s1
        rcases List.mem_append.mp hx with hx | hx
        · exact sh rfl x hx
        · simp only [List.mem_singleton] at hx
          subst hx
          exact s1
      · refine ⟨_, _, e1, more ++ [(p, cs)], some (.str p), some (.int n), o7', by rw [← List.append_assoc]; exact s1, fun x hx => ?_, by simp, by rw [List.append_assoc], fun hm => by simp at hm⟩
        rw [← List.append_assoc, List.map_append, List.mem_append] at hx
        rcases hx with hx | hx
        · exact rn1 x hx
        · simp only [List.map_cons, List.map_nil, List.mem_singleton] at hx
          subst hx
          exact G.kn _ hm)
    (gR de seers dn U0 o4 o5 o7 (some (.bl false)) none) (GS U0 rows) ⟨[], o4, o5, o7, by rw [List.append_nil]; exact R, by rw [List.append_nil]; exact rn, rfl, by rw [List.append_nil], fun _ x hx => by cases hx⟩
  refine ⟨more, o4', o5', o7', ?_, R', rn', sh⟩
  simp only [exec, evIt, ev, List.getElem?_cons_zero, List.getElem?_cons_succ, bndS_ok, bnd_ok, es0, e]
/-- the passes -/
theorem ground_loop (T : HasGround Γ) (G : GGiven names seers es needs) {de dn : D} (hde : asL U0 de = some (edD es)) (hdn : asL U0 dn = some (needs.map needD)) (d : Nat) (R : Rows es seers needs rows) (sr : ∀ s ∈ seers, s ∈ rows.map (·.1)) (rn : ∀ x ∈ rows.map (·.1), x ∈ names) (o4 o5 o7 : Option D) :
    ∃ rows' o4' o5' o7', exec (run Γ (d + 4)) (.whileS W_ground_by_4 W_ground_by_6) (gR de seers dn U0 o4 o5 o7 (some (.bl true)) none) (GS U0 rows) = some (.nx (gR de seers dn U0 o4' o5' o7' (some (.bl false)) none) (GS U0 rows')) ∧
      Rows es seers needs rows' ∧ (∀ s ∈ seers, s ∈ rows'.map (·.1)) ∧ (∀ x ∈ rows'.map (·.1), x ∈ names) ∧ ∀ x ∈ needs, Shut es seers (rows'.map (·.1)) x := by
  have zw : (1000 : Nat) < WN := by decide
  have gf := G.g.few
  have key := while_ends (test := evB (run Γ (d + 4)) W_ground_by_4) (body := execs (run Γ (d + 4)) W_ground_by_6)
    (fun m ρ U => ∃ rows' o4 o5 o7 gr, Rows es seers needs rows' ∧ (∀ s ∈ seers, s ∈ rows'.map (·.1)) ∧ (∀ x ∈ rows'.map (·.1), x ∈ names) ∧ ρ = gR de seers dn U0 o4 o5 o7 (some (.bl gr)) none ∧ U = GS U0 rows' ∧ ((gr = true ∧ m = names.length + 1 - rows'.length) ∨ (gr = false ∧ m = 0 ∧ ∀ x ∈ needs, Shut es seers (rows'.map (·.1)) x)))
    (fun r => ∃ rows' o4 o5 o7, r = .nx (gR de seers dn U0 o4 o5 o7 (some (.bl false)) none) (GS U0 rows') ∧ Rows es seers needs rows' ∧ (∀ s ∈ seers, s ∈ rows'.map (·.1)) ∧ (∀ x ∈ rows'.map (·.1), x ∈ names) ∧ ∀ x ∈ needs, Shut es seers (rows'.map (·.1)) x)
    (fun m ρ U ⟨rows', o4, o5, o7, gr, R1, sr1, rn1, hρ, hU, hm⟩ => by
      subst hρ hU
      have te : evB (run Γ (d + 4)) W_ground_by_4 (gR de seers dn U0 o4 o5 o7 (some (.bl gr)) none) (GS U0 rows') = some (.ok gr (GS U0 rows')) := by
        simp only [W_ground_by_4, evB, ev, List.getElem?_cons_zero, List.getElem?_cons_succ, bnd_ok, tru_bl]
      rcases hm with ⟨rfl, rfl⟩ | ⟨rfl, rfl, sh⟩
      · obtain ⟨more, o4', o5', o7', e1, R2, rn2, sh2⟩ := ground_pass (U0 := U0) T G hde hdn d R1 sr1 rn1 o4 o5 o7
        have hl := nodup_le R1.nd rn1
        rw [List.length_map] at hl
        have hl2 := nodup_le R2.nd rn2
        rw [List.length_map, List.length_append] at hl2
        have e0 : exec (run Γ (d + 4)) (.asg (.var 8) (.cst (.bl false))) (gR de seers dn U0 o4 o5 o7 (some (.bl true)) none) (GS U0 rows') = some (.nx (gR de seers dn U0 o4 o5 o7 (some (.bl false)) none) (GS U0 rows')) := by
          simp only [exec, ev, bndS_ok, asgT, List.set_cons_zero, List.set_cons_succ]
        have eb : execs (run Γ (d + 4)) W_ground_by_6 (gR de seers dn U0 o4 o5 o7 (some (.bl true)) none) (GS U0 rows') = some (.nx (gR de seers dn U0 o4' o5' o7' (some (.bl (!more.isEmpty))) none) (GS U0 (rows' ++ more))) := by
          rw [W_ground_by_6, execs, e0, thn_nx, execs, e1, thn_nx, execs]
        refine .inr ⟨te, .inl ?_⟩
        cases more with
        | nil =>
          rw [List.append_nil] at eb R2 rn2
          exact ⟨0, _, _, by omega, eb, rows', o4', o5', o7', false, R2, sr1, rn2, rfl, rfl, .inr ⟨rfl, rfl, sh2 rfl⟩⟩
        | cons x r =>
          refine ⟨names.length + 1 - (rows' ++ x :: r).length, _, _, ?_, eb, rows' ++ x :: r, o4', o5', o7', true, R2, fun s hs => ?_, rn2, rfl, rfl, .inl ⟨rfl, rfl⟩⟩
          · simp only [List.length_append, List.length_cons] at hl2 ⊢
            omega
          · rw [List.map_append, List.mem_append]
            exact .inl (sr1 s hs)
      · exact .inl ⟨te, rows', o4, o5, o7, rfl, R1, sr1, rn1, sh⟩)
    WN (names.length + 1 - rows.length) (gR de seers dn U0 o4 o5 o7 (some (.bl true)) none) (GS U0 rows) (by omega) ⟨rows, o4, o5, o7, true, R, sr, rn, rfl, rfl, .inl ⟨rfl, rfl⟩⟩
  obtain ⟨r, e, rows', o4', o5', o7', rfl, R', sr', rn', sh⟩ := key
  exact ⟨rows', o4', o5', o7', by rw [exec]; exact e, R', sr', rn', sh⟩
/-- the seers' rows -/
theorem rows_seers : ∀ (r : List Tx) (a : List Rw), Rows es seers needs a → (a.map (·.1) ++ r).Nodup → (∀ x ∈ r, x ∈ seers) → Rows es seers needs (a ++ r.map fun x => (x, []))
  | [], a, R, _, _ => by rw [List.map_nil, List.append_nil]; exact R
  | x :: r, a, R, nd, hs => by
    have n1 : x ∉ a.map (·.1) := fun h => by
      rw [List.nodup_append] at nd
      exact nd.2.2 x h x (by simp) rfl
    have := rows_seers r (a ++ [(x, [])]) (.seer R (hs x (by simp)) n1) (by rw [List.map_append, List.append_assoc]; exact nd) fun y hy => hs y (by simp [hy])
    rw [List.append_assoc] at this
    exact this
def seerF (seers : List Tx) (x : Tx × Nat) : Option Rw := if x.1 ∈ seers then some (x.1, []) else none
theorem seer_rows (l : List (Tx × Nat)) : l.filterMap (seerF seers) = ((l.map (·.1)).filter fun x => decide (x ∈ seers)).map fun x => (x, []) := by
  induction l with
  | nil => rfl
  | cons x r ih =>
    rw [List.filterMap_cons, List.map_cons, List.filter_cons]
    unfold seerF
    by_cases q : x.1 ∈ seers
    · simp only [q, if_true, decide_true, List.map_cons]
      rw [← ih]
      rfl
    · simp only [q, if_false, decide_false, Bool.false_eq_true]
      rw [← ih]
      rfl
/-- a cut of those told -/
def CutOk (es : List (Tx × Tx)) (seers : List Tx) (needs : List (Tx × Nat)) (names : List Tx) (rows : List Rw) (c : Tx × List Tx) : Prop :=
  ∃ n cs, (c.1, n) ∈ needs ∧ Best (within es (rows.map (·.1)) c.1) seers c.1 cs c.2 ∧ cs.length < n ∧ (∃ l : List Tx, c.2 = l.mergeSort leS) ∧ ∀ x ∈ c.2, x ∈ names
theorem cut_turn (T : HasGround Γ) (G : GGiven names seers es needs) {de dn : D} (hde : asL U0 de = some (edD es)) (hdn : asL U0 dn = some (needs.map needD)) (d : Nat) (R : Rows es seers needs rows) (sh : ∀ x ∈ needs, Shut es seers (rows.map (·.1)) x) (hn : (p, n) ∈ needs) {cuts : List (Tx × List Tx)} (hc : cuts.length < SZ) (o4 o5 o7 o8 : Option D) :
    ∃ more, turnF (.tup [4, 5]) (execs (run Γ (d + 4)) W_ground_by_7) (needD (p, n)) (gR de seers dn U0 o4 o5 o7 o8 (some (.ref (U0.length + 2)))) (GS U0 rows ++ [.lst (cuts.map cutD)]) = some (.nx (gR de seers dn U0 (some (.str p)) (some (.int n)) o7 o8 (some (.ref (U0.length + 2)))) (GS U0 rows ++ [.lst ((cuts ++ more).map cutD)])) ∧
      (∀ c ∈ more, CutOk es seers needs names rows c) ∧ more.map (·.1) = [p].filter fun x => decide (x ∉ rows.map (·.1)) := by
  have hp : member (GS U0 rows ++ [.lst (cuts.map cutD)]) (.str p) (.ref (U0.length + 1)) = some (decide (p ∈ rows.map (·.1))) := mem_true p gs_h
  have a0 : asgT (GS U0 rows ++ [.lst (cuts.map cutD)]) (.tup [4, 5]) (needD (p, n)) (gR de seers dn U0 o4 o5 o7 o8 (some (.ref (U0.length + 2)))) = some (gR de seers dn U0 (some (.str p)) (some (.int n)) o7 o8 (some (.ref (U0.length + 2)))) := rfl
  have lU : (GS U0 rows).length = U0.length + 2 := by unfold GS; simp
  unfold turnF
  rw [a0]
  simp only
  by_cases q : p ∈ rows.map (·.1)
  · refine ⟨[], ?_, fun c hc => (by cases hc), by simp [q]⟩
    simp only [W_ground_by_7, execs, exec, evB, ev, List.getElem?_cons_zero, List.getElem?_cons_succ, bnd_ok, cmp_notIn, hp, q, decide_true, Option.map_some, Bool.not_true, tru_bl, Bool.false_eq_true, if_false, bndS_ok, thn_nx, List.append_nil]
  · have f2 := r_within (p := p) (es := es) T.within (d + 3) (gs_h (U0 := U0) (rows := rows) (J := [.lst (cuts.map cutD)])) (asL_app (asL_gs hde)) G.fe
    obtain ⟨cs, cut, b, cn, f3⟩ := r_apartF (goal := p) T.web T.apart (G.g.sub (List.Sublist.refl _) (within_sub (H := rows.map (·.1)) (p := p))) d (GS U0 rows ++ [.lst (cuts.map cutD)])
    refine ⟨[(p, cut.mergeSort leS)], ?_, fun c hc => ?_, by simp [q]⟩
    · have g9 : (GS U0 rows ++ [MO.lst (cuts.map cutD)])[U0.length + 2]? = some (.lst (cuts.map cutD)) := by rw [← lU]; simp
      have ap : prim .append false [.ref (U0.length + 2), .tup [.str p, .lst ((cut.mergeSort leS).map .str)]] (GS U0 rows ++ [.lst (cuts.map cutD)]) = some (.ok .non (GS U0 rows ++ [.lst ((cuts ++ [(p, cut.mergeSort leS)]).map cutD)])) := by
        have h1 : (cuts.map cutD).length < SZ := by rw [List.length_map]; exact hc
        have h2 : updS (GS U0 rows ++ [MO.lst (cuts.map cutD)]) (U0.length + 2) (.lst (cuts.map cutD ++ [.tup [.str p, .lst ((cut.mergeSort leS).map .str)]])) = GS U0 rows ++ [.lst ((cuts ++ [(p, cut.mergeSort leS)]).map cutD)] := by
          rw [← lU, upd_end, List.map_append]
          rfl
        simp only [prim, g9, h1, if_true, h2]
      simp only [W_ground_by_7, execs, exec, evB, ev, evs, List.getElem?_cons_zero, List.getElem?_cons_succ, bnd_ok, cmp_notIn, hp, q, decide_false, Option.map_some, Bool.not_false, tru_bl, if_true, bndS_ok, f2, f3, idxT1, recvOk, asL, g9, Option.isSome_some, ap, thn_nx]
    · simp only [List.mem_singleton] at hc
      subst hc
      refine ⟨n, _, hn, b, ?_, ⟨cut, rfl⟩, fun x hx => cn x ((List.mergeSort_perm _ _).mem_iff.mp hx)⟩
      exact (sh _ hn).resolve_left q _ b.fam
theorem r_ground (T : HasGround Γ) (G : GGiven names seers es needs) (d : Nat) (U0 : Store) {de dn : D} (hde : asL U0 de = some (edD es)) (hdn : asL U0 dn = some (needs.map needD)) :
    ∃ rows cuts, Ground es seers needs names rows cuts ∧ (∀ x ∈ rows.map (·.1), x ∈ names) ∧
      frz true U0 (run Γ (d + 5) "ground_by" [de, .lst (seers.map .str), dn] U0) = some (.ok (.tup [.lst (rows.map rowD), .lst (cuts.map cutD)]) U0) := by
  have z0 : (4000 : Nat) < SZ := by decide
  have gf := G.g.few
  have nl : needs.length < 100 := by
    have := nodup_le G.keys fun x hx => by
      obtain ⟨y, hy, rfl⟩ := List.mem_map.mp hx
      exact G.kn y hy
    rw [List.length_map] at this
    omega
  -- the seers
  have t1 : ∀ x ∈ needs, turnL (.tup [4, 5]) (evB (run Γ (d + 4)) W_ground_by_1) (ev (run Γ (d + 4)) W_ground_by_2) (wipe [some de, some (.lst (seers.map .str)), some dn, none, none, none, none, none, none, none] [4, 5]) (needD x) U0 = some (.ok ((seerF seers x).map rowD) U0) := by
    rintro ⟨p, n⟩ _
    have w0 : setAll (wipe [some de, some (.lst (seers.map .str)), some dn, none, none, none, none, none, none, none] [4, 5]) [4, 5] [.str p, .int n] = some [some de, some (.lst (seers.map .str)), some dn, none, some (.str p), some (.int n), none, none, none, none] := rfl
    have hm : member U0 (.str p) (.lst (seers.map .str)) = some (decide (p ∈ seers)) := mem_strs p rfl
    by_cases q : p ∈ seers
    · have : seerF seers (p, n) = some (p, []) := by unfold seerF; rw [if_pos q]
      simp only [this, turnL, asgT, needD, asQ, w0, W_ground_by_1, W_ground_by_2, evB, ev, evs, List.getElem?_cons_zero, List.getElem?_cons_succ, bnd_ok, cmp_in, hm, q, decide_true, tru_bl, if_true, mkL, Bool.false_eq_true, if_false, Option.map_some, ret_eq, noEx_ok, rowD, List.map_nil]
    · have : seerF seers (p, n) = none := by unfold seerF; rw [if_neg q]
      simp only [this, turnL, asgT, needD, asQ, w0, W_ground_by_1, W_ground_by_2, evB, ev, evs, List.getElem?_cons_zero, List.getElem?_cons_succ, bnd_ok, cmp_in, hm, q, decide_false, tru_bl, Bool.false_eq_true, if_false, Option.map_none, ret_eq, noEx_ok]
  have e1 := lcL_fm needD (fun x => (seerF seers x).map rowD) needs t1
  obtain ⟨src1, g1, g2, g3, g4⟩ := lcSeq (turn := turnL (.tup [4, 5]) (evB (run Γ (d + 4)) W_ground_by_1) (ev (run Γ (d + 4)) W_ground_by_2) (wipe [some de, some (.lst (seers.map .str)), some dn, none, none, none, none, none, none, none] [4, 5])) hdn fun x hx => by
    obtain ⟨e, he, rfl⟩ := List.mem_map.mp hx
    exact ⟨_, t1 e he⟩
  have fm : needs.filterMap (fun x => (seerF seers x).map rowD) = (needs.filterMap (seerF seers)).map rowD := by
    rw [List.map_filterMap]
  rw [fm, seer_rows] at e1
  have R0 : Rows es seers needs (((needs.map (·.1)).filter fun x => decide (x ∈ seers)).map fun x => (x, [])) := by
    have := rows_seers (es := es) (seers := seers) (needs := needs) ((needs.map (·.1)).filter fun x => decide (x ∈ seers)) [] .nil (by
      rw [List.map_nil, List.nil_append]
      exact List.Nodup.sublist List.filter_sublist G.keys) fun x hx => by
        have := (List.mem_filter.mp hx).2
        simpa using this
    rw [List.nil_append] at this
    exact this
  have nm : ∀ l : List Tx, (l.map fun x => ((x, []) : Rw)).map (·.1) = l := fun l => by
    rw [List.map_map]
    exact List.map_id'' (fun _ => rfl) l
  have n0 := nm ((needs.map (·.1)).filter fun x => decide (x ∈ seers))
  have sr0 : ∀ s ∈ seers, s ∈ (((needs.map (·.1)).filter fun x => decide (x ∈ seers)).map fun x => ((x, []) : Rw)).map (·.1) := by
    rw [n0]
    intro s hs
    rw [List.mem_filter]
    exact ⟨G.seer s hs, decide_eq_true hs⟩
  have rn0 : ∀ x ∈ (((needs.map (·.1)).filter fun x => decide (x ∈ seers)).map fun x => ((x, []) : Rw)).map (·.1), x ∈ names := by
    rw [n0]
    intro x hx
    obtain ⟨y, hy, rfl⟩ := List.mem_map.mp (List.mem_filter.mp hx).1
    exact G.kn y hy
  generalize (((needs.map (·.1)).filter fun x => decide (x ∈ seers)).map fun x => ((x, []) : Rw)) = rows0 at e1 R0 sr0 rn0
  clear n0 t1
  have x1 : exec (run Γ (d + 4)) (.asg (.var 3) (.lc true [4, 5] (.tup [4, 5]) (.seq (.var 2)) W_ground_by_1 W_ground_by_2)) [some de, some (.lst (seers.map .str)), some dn, none, none, none, none, none, none, none] U0 = some (.nx [some de, some (.lst (seers.map .str)), some dn, some (.ref U0.length), none, none, none, none, none, none] (U0 ++ [.lst (rows0.map rowD)])) := by
    have nz : ¬ SZ < src1.get.length := by
      rw [g2, List.length_map]
      omega
    simp only [exec, ev, evIt, List.getElem?_cons_zero, List.getElem?_cons_succ, bnd_ok, g1, if_neg nz, g4, e1, g3, if_true, mkL, bndS_ok, asgT, List.set_cons_zero, List.set_cons_succ]
  have x2 : exec (run Γ (d + 4)) (.asg (.var 6) (.dnil true 0)) [some de, some (.lst (seers.map .str)), some dn, some (.ref U0.length), none, none, none, none, none, none] (U0 ++ [.lst (rows0.map rowD)]) = some (.nx (gR de seers dn U0 none none none none none) (U0 ++ [.lst (rows0.map rowD), .dct 0 (trueD [])])) := by
    simp only [exec, ev, mkD, if_true, bndS_ok, asgT, List.set_cons_zero, List.set_cons_succ, List.length_append, List.length_singleton, List.append_assoc, List.cons_append, List.nil_append]
    rfl
  have rl0 : rows0.length < 100 := by
    have := gl_len R0.nd rn0 G.g
    rwa [List.length_map] at this
  have x3 : ∃ o4 o7, exec (run Γ (d + 4)) (.forS (.tup [4, 7]) (.seq (.var 3)) W_ground_by_3) (gR de seers dn U0 none none none none none) (U0 ++ [.lst (rows0.map rowD), .dct 0 (trueD [])]) = some (.nx (gR de seers dn U0 o4 none o7 none none) (GS U0 rows0)) := by
    have key := forLive (turn := turnF (.tup [4, 7]) (execs (run Γ (d + 4)) W_ground_by_3)) (n := U0.length) rowD rows0 (fun dm ρ V => (∃ o4 o7, ρ = gR de seers dn U0 o4 none o7 none none) ∧ V = U0 ++ [.lst (rows0.map rowD), .dct 0 (trueD (dm.map (·.1)))])
      (fun dm ρ V ⟨_, e⟩ => by subst e; rw [List.getElem?_append_right (Nat.le_refl _)]; simp) (fun _ => False)
      (fun dm x r ρ V e ⟨⟨o4, o7, eρ⟩, eV⟩ => by
        subst eρ eV
        have hx : x.1 ∉ dm.map (·.1) := fun h => by
          have nd := R0.nd
          rw [e, List.map_append, List.nodup_append] at nd
          exact nd.2.2 _ h x.1 (by simp) rfl
        have hd : (dm.map (·.1)).length < SZ := by
          have := congrArg List.length e
          simp only [List.length_append, List.length_cons] at this
          rw [List.length_map]
          omega
        have pu := gs_put (U0 := U0) (X := rows0.map rowD) x.1 hd hx
        refine .inl ⟨gR de seers dn U0 (some (.str x.1)) none (some (.lst (x.2.map chD))) none none, U0 ++ [.lst (rows0.map rowD), .dct 0 (trueD (dm.map (·.1) ++ [x.1]))], ?_, ⟨_, _, rfl⟩, by rw [List.map_append]; rfl⟩
        simp only [turnF, rowD, asgT, asQ, setAll, W_ground_by_3, execs, exec, ev, List.set_cons_zero, List.set_cons_succ, List.getElem?_cons_zero, List.getElem?_cons_succ, bndS_ok, pu, thn_nx])
      (gR de seers dn U0 none none none none none) (U0 ++ [.lst (rows0.map rowD), .dct 0 (trueD [])]) ⟨⟨none, none, rfl⟩, rfl⟩
    rcases key with ⟨ρ', V, e, ⟨o4, o7, eρ⟩, eV⟩ | ⟨_, _, _, q⟩
    · subst eρ eV
      refine ⟨o4, o7, ?_⟩
      have hg : (U0 ++ [MO.lst (rows0.map rowD), .dct 0 (trueD [])])[U0.length]? = some (.lst (rows0.map rowD)) := by
        rw [List.getElem?_append_right (Nat.le_refl _)]
        simp
      simp only [exec, evIt, ev, List.getElem?_cons_zero, List.getElem?_cons_succ, bnd_ok, bndS_ok, srcOf, hg, e]
      rfl
    · exact q.elim
  obtain ⟨o4, o7, x3⟩ := x3
  have x4 : exec (run Γ (d + 4)) (.asg (.var 8) (.cst (.bl true))) (gR de seers dn U0 o4 none o7 none none) (GS U0 rows0) = some (.nx (gR de seers dn U0 o4 none o7 (some (.bl true)) none) (GS U0 rows0)) := by
    simp only [exec, ev, bndS_ok, asgT, List.set_cons_zero, List.set_cons_succ]
  obtain ⟨rows, o4', o5', o7', x5, R, sr, rn, sh⟩ := ground_loop (U0 := U0) T G hde hdn d R0 sr0 rn0 o4 none o7
  have lU : (GS U0 rows).length = U0.length + 2 := by unfold GS; simp
  have x6 : exec (run Γ (d + 4)) (.asg (.var 9) (.lst true .nil)) (gR de seers dn U0 o4' o5' o7' (some (.bl false)) none) (GS U0 rows) = some (.nx (gR de seers dn U0 o4' o5' o7' (some (.bl false)) (some (.ref (U0.length + 2)))) (GS U0 rows ++ [.lst []])) := by
    simp only [exec, ev, evs, bnd_ok, mkL, if_true, bndS_ok, asgT, List.set_cons_zero, List.set_cons_succ, lU]
  obtain ⟨src9, ρ9, U9, es9, e7, cuts, o42, o52, c1, c2, c3, rfl, rfl⟩ := forQ needD needs (dd := dn) (U0 := U0)
    (turn := turnF (.tup [4, 5]) (execs (run Γ (d + 4)) W_ground_by_7))
    (fun dn' ρ U => ∃ cuts o4 o5, (∀ c ∈ cuts, CutOk es seers needs names rows c) ∧ cuts.map (·.1) = (dn'.map (·.1)).filter (fun x => decide (x ∉ rows.map (·.1))) ∧ cuts.length ≤ dn'.length ∧ ρ = gR de seers dn U0 o4 o5 o7' (some (.bl false)) (some (.ref (U0.length + 2))) ∧ U = GS U0 rows ++ [.lst (cuts.map cutD)])
    (fun dn' ρ U ⟨cuts, o4, o5, _, _, _, _, hU⟩ => by
      subst hU
      exact tk_gs) hdn
    (fun dn' x r ρ U e ⟨cuts, o4, o5, c1, c2, c3, hρ, hU⟩ => by
      subst hρ hU
      obtain ⟨p, n⟩ := x
      have hm : (p, n) ∈ needs := by rw [e]; simp
      have hl := congrArg List.length e
      simp only [List.length_append, List.length_cons] at hl
      obtain ⟨more, e1, m1, m2⟩ := cut_turn (U0 := U0) T G hde hdn d R sh hm (cuts := cuts) (by omega) o4 o5 o7' (some (.bl false))
      refine ⟨_, _, e1, cuts ++ more, _, _, fun c hc => ?_, ?_, ?_, rfl, rfl⟩
      · rcases List.mem_append.mp hc with hc | hc
        · exact c1 c hc
        · exact m1 c hc
      · rw [List.map_append, List.map_append, List.filter_append, c2, m2]
        rfl
      · have := congrArg List.length m2
        rw [List.length_map] at this
        have h2 := List.length_filter_le (fun x => decide (x ∉ rows.map (·.1))) [p]
        simp only [List.length_append, List.length_singleton] at h2 ⊢
        omega)
    (gR de seers dn U0 o4' o5' o7' (some (.bl false)) (some (.ref (U0.length + 2)))) (GS U0 rows ++ [.lst []]) ⟨[], o4', o5', fun c hc => (by cases hc), rfl, Nat.le_refl _, rfl, rfl⟩
  have x7 : exec (run Γ (d + 4)) (.forS (.tup [4, 5]) (.seq (.var 2)) W_ground_by_7) (gR de seers dn U0 o4' o5' o7' (some (.bl false)) (some (.ref (U0.length + 2)))) (GS U0 rows ++ [.lst []]) = some (.nx (gR de seers dn U0 o42 o52 o7' (some (.bl false)) (some (.ref (U0.length + 2)))) (GS U0 rows ++ [.lst (cuts.map cutD)])) := by
    simp only [exec, evIt, ev, List.getElem?_cons_zero, List.getElem?_cons_succ, bndS_ok, bnd_ok, es9, e7]
  refine ⟨rows, cuts, ⟨R, sr, c2, c1⟩, rn, ?_⟩
  have er : run Γ (d + 5) "ground_by" [de, .lst (seers.map .str), dn] U0 = some (.ok (.tup [.ref U0.length, .ref (U0.length + 2)]) (GS U0 rows ++ [.lst (cuts.map cutD)])) := by
    rw [run_at T.ground rfl]
    simp only [W_ground_by, startR, List.map_cons, List.map_nil, List.replicate, List.cons_append, List.nil_append, Nat.reduceSub]
    rw [execs, x1, thn_nx, execs, x2, thn_nx, execs, x3, thn_nx, execs, x4, thn_nx, execs, x5, thn_nx, execs, x6, thn_nx, execs, x7, thn_nx]
    simp only [execs, exec, ev, evs, List.getElem?_cons_zero, List.getElem?_cons_succ, bnd_ok, bndS_ok, thn_rt, fin_rt]
  rw [er]
  have g9 : (GS U0 rows ++ [MO.lst (cuts.map cutD)])[U0.length + 2]? = some (.lst (cuts.map cutD)) := by rw [← lU]; simp
  have tk : (GS U0 rows ++ [MO.lst (cuts.map cutD)]).take U0.length = U0 := tk_gs
  have rr := rs_pairG (rs_ref (n₀ := U0.length) (Nat.le_refl _) (gs_g (U0 := U0) (rows := rows) (J := [.lst (cuts.map cutD)])) (closed_rowD rows)) (rs_ref (n₀ := U0.length) (by omega) g9 (closed_cutD cuts))
  simp only [frz, if_true, tk, rr]
end
end VI

/-! Gn: _law_needs walked. -/
namespace VI
def W_needs_1 : ISs := (.cons (.asg (.var 7) (.call true "_law_mixed" (.cons (.var 2) (.cons (.bin .add false (.cst (.int 600)) (.var 5)) .nil))))
 (.cons (.expr (.prim .append false (.cons (.var 4) (.cons (.tup (.cons (.var 6) (.cons (.bin .add false (.cst (.int 1)) (.idx (.lst false (.cons (.cst (.int 0)) (.cons (.bin .mod false (.var 7) (.cst (.int 2))) (.cons (.bin .mod false (.var 7) (.cst (.int 3))) (.cons (.bin .mod false (.var 7) (.cst (.int 5))) .nil))))) (.bin .mod false (.var 3) (.cst (.int 4))))) .nil))) .nil))))
 .nil))
def W_needs : Fn := ⟨2, 9,
 (.cons (.asg (.var 2) (.call true "_law_fold" (.cons (.var 0) .nil)))
 (.cons (.asg (.var 3) (.call true "_law_mixed" (.cons (.var 2) (.cons (.cst (.int 3)) .nil))))
 (.cons (.asg (.var 4) (.lst true .nil))
 (.cons (.forS (.tup [5, 6]) (.enum (.var 1) 0) W_needs_1)
 (.cons (.asg (.var 8) (.bin .mod false (.bin .fdiv false (.var 3) (.cst (.int 4))) (.prim .len false (.cons (.var 1) .nil))))
 (.cons (.asg (.var 4) (.bin .add true (.slc false (.var 4) (.var 8) (.cst .non)) (.slc false (.var 4) (.cst .non) (.var 8))))
 (.cons (.ifS (.cmp .eq (.bin .mod false (.bin .fdiv false (.var 3) (.cst (.int 64))) (.cst (.int 2))) (.cst (.int 1)))
 (.cons (.expr (.prim .reverse false (.cons (.var 4) .nil)))
 .nil)
 .nil)
 (.cons (.ret (.var 4))
 .nil))))))))⟩
section
variable {Γ : Tab} {U : Store} {names : List Tx}
theorem ixN4 (a b c : Int) (q : Int) (h0 : 0 ≤ q) (h1 : q < 4) (ha : 0 ≤ a ∧ a < 5) (hb : 0 ≤ b ∧ b < 5) (hc : 0 ≤ c ∧ c < 5) : ∃ v : Nat, v < 5 ∧ ∀ U, index1 (.lst [.int 0, .int a, .int b, .int c]) (.int q) U = some (.ok (.int v) U) := by
  have : q = 0 ∨ q = 1 ∨ q = 2 ∨ q = 3 := by omega
  rcases this with rfl | rfl | rfl | rfl
  · exact ⟨0, by decide, fun U => rfl⟩
  · exact ⟨a.toNat, by omega, fun U => by
      have : ((a.toNat : Nat) : Int) = a := by omega
      rw [this]; rfl⟩
  · exact ⟨b.toNat, by omega, fun U => by
      have : ((b.toNat : Nat) : Int) = b := by omega
      rw [this]; rfl⟩
  · exact ⟨c.toNat, by omega, fun U => by
      have : ((c.toNat : Nat) : Int) = c := by omega
      rw [this]; rfl⟩
/-- what each needs -/
structure Needs (names : List Tx) (needs : List (Tx × Nat)) : Prop where
  perm : (needs.map (·.1)).Perm names
  num : ∀ x ∈ needs, 1 ≤ x.2 ∧ x.2 ≤ 5
theorem needs_loop (hm : Γ "_law_mixed" = some W_mixed) (d : Nat) (U : Store) (a b : D) (seed m : Int) : ∀ (ns : List Tx) (i : Nat) (acc : List (Tx × Nat)) (o5 o6 o7 : Option D), i + ns.length < 1000 → acc.length + ns.length < 1000 →
    ∃ new o5' o6' o7', new.map (·.1) = ns ∧ (∀ x ∈ new, 1 ≤ x.2 ∧ x.2 ≤ 5) ∧ forL (turnF (.tup [5, 6]) (execs (run Γ (d + 1)) W_needs_1)) (enumD i (ns.map .str)) [some a, some b, some (.int seed), some (.int m), some (.ref U.length), o5, o6, o7, none] (U ++ [.lst (acc.map needD)]) =
      some (.nx [some a, some b, some (.int seed), some (.int m), some (.ref U.length), o5', o6', o7', none] (U ++ [.lst ((acc ++ new).map needD)]))
  | [], i, acc, o5, o6, o7, _, _ => ⟨[], o5, o6, o7, rfl, fun x hx => (by cases hx), by simp [enumD, forL]⟩
  | x :: t, i, acc, o5, o6, o7, hi, hz => by
    have z0 : (4000 : Nat) < SZ := by decide
    simp only [List.length_cons] at hi hz
    obtain ⟨n, n0, n1, en⟩ := w_mixed hm d (U ++ [.lst (acc.map needD)]) seed (600 + (i : Int)) (by omega) (by omega)
    have hmm : frz true (U ++ [.lst (acc.map needD)]) (run Γ (d + 1) "_law_mixed" [.int seed, .int (600 + (i : Int))] (U ++ [.lst (acc.map needD)])) = some (.ok (.int n) (U ++ [.lst (acc.map needD)])) := by rw [en, frz_int]
    have e2 := emodp n (n := 2) (by decide)
    have e3 := emodp n (n := 3) (by decide)
    have e5 := emodp n (n := 5) (by decide)
    have e4 := emodp m (n := 4) (by decide)
    obtain ⟨v, v5, iv⟩ := ixN4 (n % 2) (n % 3) (n % 5) (m % 4) e4.1 e4.2 ⟨e2.1, by omega⟩ ⟨e3.1, by omega⟩ e5
    obtain ⟨new, o5', o6', o7', q1, q2, q3⟩ := needs_loop hm d U a b seed m t (i + 1) (acc ++ [(x, 1 + v)]) (some (.int i)) (some (.str x)) (some (.int n)) (by omega) (by simp only [List.length_append, List.length_singleton]; omega)
    refine ⟨(x, 1 + v) :: new, o5', o6', o7', by rw [List.map_cons, q1], fun y hy => ?_, ?_⟩
    · rcases List.mem_cons.mp hy with rfl | hy
      · simp only
        omega
      · exact q2 y hy
    · have hl : (acc.map needD).length < SZ := by rw [List.length_map]; omega
      have nd : needD (x, 1 + v) = .tup [.str x, .int (1 + (v : Int))] := by
        unfold needD
        simp only
        congr 3
      have hp : prim .append false [.ref U.length, .tup [.str x, .int (1 + (v : Int))]] (U ++ [.lst (acc.map needD)]) = some (.ok .non (U ++ [.lst ((acc ++ [(x, 1 + v)]).map needD)])) := by
        rw [← nd]
        simp only [prim, get_end, hl, if_true, upd_end]
        simp
      have turn : turnF (.tup [5, 6]) (execs (run Γ (d + 1)) W_needs_1) (.tup [.int i, .str x]) [some a, some b, some (.int seed), some (.int m), some (.ref U.length), o5, o6, o7, none] (U ++ [.lst (acc.map needD)]) =
          some (.nx [some a, some b, some (.int seed), some (.int m), some (.ref U.length), some (.int i), some (.str x), some (.int n), none] (U ++ [.lst ((acc ++ [(x, 1 + v)]).map needD)])) := by
        simp only [turnF, asgT, asQ, setAll, List.set_cons_zero, List.set_cons_succ, W_needs_1, execs, exec, ev, evs, List.getElem?_cons_zero, List.getElem?_cons_succ, bnd_ok, binop, addOp, hmm, bndS_ok, thn_nx, show (0 : Int) < 2 by decide, show (0 : Int) < 3 by decide, show (0 : Int) < 4 by decide, show (0 : Int) < 5 by decide, if_true, mkL, Bool.false_eq_true, if_false, iv, recvOk, asL, get_end, Option.isSome_some, hp]
      rw [List.map_cons, enumD, forL, turn, turnEnd_nx, q3]
      simp
theorem needs_rot (new : List (Tx × Nat)) (k : Nat) : (new.drop k ++ new.take k).Perm new := by
  have := List.perm_append_comm (l₁ := new.drop k) (l₂ := new.take k)
  rwa [List.take_append_drop] at this
theorem w_needs (hm : Γ "_law_mixed" = some W_mixed) (hf : Γ "_law_fold" = some W_fold) (hΓ : Γ "_law_needs" = some W_needs) (d : Nat) (U : Store) (ns : List Int) (h1 : 1 ≤ names.length) (h2 : names.length < 100) :
    ∃ needs, Needs names needs ∧ frz true U (run Γ (d + 2) "_law_needs" [.lst (ns.map .int), .lst (names.map .str)] U) = some (.ok (.lst (needs.map needD)) U) := by
  have z0 : (4000 : Nat) < SZ := by decide
  obtain ⟨seed, s0, s1, eseed⟩ := w_fold hf d U ns
  obtain ⟨m, m0, m1, em⟩ := w_mixed hm d U seed 3 (by decide) (by decide)
  have hs : frz true U (run Γ (d + 1) "_law_fold" [.lst (ns.map .int)] U) = some (.ok (.int seed) U) := by rw [eseed, frz_int]
  have hmm : frz true U (run Γ (d + 1) "_law_mixed" [.int seed, .int 3] U) = some (.ok (.int m) U) := by rw [em, frz_int]
  obtain ⟨new, o5, o6, o7, q1, q2, q3⟩ := needs_loop hm d U (.lst (ns.map .int)) (.lst (names.map .str)) seed m names 0 [] none none none (by omega) (by simp only [List.length_nil]; omega)
  have nl : new.length = names.length := by rw [← q1, List.length_map]
  rw [List.map_nil, List.nil_append] at q3
  have d4 : divOk 4 = true := divOk_small (by decide) (by decide)
  have d64 : divOk 64 = true := divOk_small (by decide) (by decide)
  have hl : (0 : Int) < (names.length : Int) := by omega
  have n1 : prim .len false [.lst (names.map .str)] (U ++ [.lst (new.map needD)]) = some (.ok (.int names.length) (U ++ [.lst (new.map needD)])) := by
    have := asL_len (U := U ++ [.lst (new.map needD)]) (d := .lst (names.map .str)) (xs := names.map .str) rfl
    rwa [List.length_map] at this
  have ek := emodp (m / 4) hl
  generalize hk : m / 4 % (names.length : Int) = k at ek
  have c1 : cut (new.map needD) (some k) none = (new.drop k.toNat).map needD := by rw [cut_hi _ ek.1, List.map_drop]
  have c2 : cut (new.map needD) none (some k) = (new.take k.toNat).map needD := by rw [cut_lo _ ek.1, List.map_take]
  have bz : ((new.drop k.toNat).map needD).length + ((new.take k.toNat).map needD).length ≤ SZ := by
    simp only [List.length_map, List.length_drop, List.length_take]
    omega
  have hap : (new.drop k.toNat).map needD ++ (new.take k.toNat).map needD = (new.drop k.toNat ++ new.take k.toNat).map needD := by rw [List.map_append]
  have ga : (U ++ [MO.lst (new.map needD)])[U.length]? = some (.lst (new.map needD)) := by simp
  let R0 : Option D → Option D → Option D → D → Option D → Rho := fun o5 o6 o7 l o8 => [some (.lst (ns.map .int)), some (.lst (names.map .str)), some (.int seed), some (.int m), some l, o5, o6, o7, o8]
  have x1 : exec (run Γ (d + 1)) (.asg (.var 2) (.call true "_law_fold" (.cons (.var 0) .nil))) [some (.lst (ns.map .int)), some (.lst (names.map .str)), none, none, none, none, none, none, none] U = some (.nx [some (.lst (ns.map .int)), some (.lst (names.map .str)), some (.int seed), none, none, none, none, none, none] U) := by
    simp only [exec, ev, evs, List.getElem?_cons_zero, bnd_ok, hs, bndS_ok, asgT, List.set_cons_zero, List.set_cons_succ]
  have x2 : exec (run Γ (d + 1)) (.asg (.var 3) (.call true "_law_mixed" (.cons (.var 2) (.cons (.cst (.int 3)) .nil)))) [some (.lst (ns.map .int)), some (.lst (names.map .str)), some (.int seed), none, none, none, none, none, none] U = some (.nx [some (.lst (ns.map .int)), some (.lst (names.map .str)), some (.int seed), some (.int m), none, none, none, none, none] U) := by
    simp only [exec, ev, evs, List.getElem?_cons_zero, List.getElem?_cons_succ, bnd_ok, hmm, bndS_ok, asgT, List.set_cons_zero, List.set_cons_succ]
  have x3 : exec (run Γ (d + 1)) (.asg (.var 4) (.lst true .nil)) [some (.lst (ns.map .int)), some (.lst (names.map .str)), some (.int seed), some (.int m), none, none, none, none, none] U = some (.nx (R0 none none none (.ref U.length) none) (U ++ [.lst []])) := by
    simp only [R0, exec, ev, evs, bnd_ok, mkL, if_true, bndS_ok, asgT, List.set_cons_zero, List.set_cons_succ]
  have x4 : exec (run Γ (d + 1)) (.forS (.tup [5, 6]) (.enum (.var 1) 0) W_needs_1) (R0 none none none (.ref U.length) none) (U ++ [.lst []]) = some (.nx (R0 o5 o6 o7 (.ref U.length) none) (U ++ [.lst (new.map needD)])) := by
    simp only [R0, exec, evIt, ev, List.getElem?_cons_zero, List.getElem?_cons_succ, bnd_ok, bndS_ok, srcOf, srcL, if_true, forGo_enum, q3]
  have x5 : exec (run Γ (d + 1)) (.asg (.var 8) (.bin .mod false (.bin .fdiv false (.var 3) (.cst (.int 4))) (.prim .len false (.cons (.var 1) .nil)))) (R0 o5 o6 o7 (.ref U.length) none) (U ++ [.lst (new.map needD)]) = some (.nx (R0 o5 o6 o7 (.ref U.length) (some (.int k))) (U ++ [.lst (new.map needD)])) := by
    simp only [R0, exec, ev, evs, List.getElem?_cons_zero, List.getElem?_cons_succ, bnd_ok, binop, d4, if_true, recvOk, n1, hl, hk, bndS_ok, asgT, List.set_cons_zero, List.set_cons_succ]
  have x6 : exec (run Γ (d + 1)) (.asg (.var 4) (.bin .add true (.slc false (.var 4) (.var 8) (.cst .non)) (.slc false (.var 4) (.cst .non) (.var 8)))) (R0 o5 o6 o7 (.ref U.length) (some (.int k))) (U ++ [.lst (new.map needD)]) = some (.nx (R0 o5 o6 o7 (.ref (U.length + 1)) (some (.int k))) (U ++ [.lst (new.map needD), .lst ((new.drop k.toNat ++ new.take k.toNat).map needD)])) := by
    simp only [R0, exec, ev, evs, List.getElem?_cons_zero, List.getElem?_cons_succ, bnd_ok, slice1, bnd?, Option.isSome_some, sliceB, asL, ga, c1, c2, mkL, Bool.false_eq_true, if_false, binop, addOp, bz, if_true, hap, bndS_ok, asgT, List.set_cons_zero, List.set_cons_succ, List.length_append, List.length_singleton, List.append_assoc, List.cons_append, List.nil_append]
  have rot := needs_rot new k.toNat
  have fin : ∀ res : List (Tx × Nat), res.Perm new → Needs names res ∧ frz true U (some (.ok (.ref (U.length + 1)) (U ++ [.lst (new.map needD), .lst (res.map needD)]))) = some (.ok (.lst (res.map needD)) U) := fun res pm => by
    refine ⟨⟨?_, fun x hx => q2 x (pm.mem_iff.mp hx)⟩, ?_⟩
    · rw [← q1]
      exact pm.map _
    · exact frz_ref (by omega) (by rw [List.getElem?_append_right (by omega)]; simp) (closed_needD res)
  have e2 := emodp (m / 64) (n := 2) (by decide)
  by_cases q : m / 64 % 2 = 1
  · refine ⟨(new.drop k.toNat ++ new.take k.toNat).reverse, (fin _ ((List.reverse_perm _).trans rot)).1, ?_⟩
    have g1 : (U ++ [MO.lst (new.map needD), .lst ((new.drop k.toNat ++ new.take k.toNat).map needD)])[U.length + 1]? = some (.lst ((new.drop k.toNat ++ new.take k.toNat).map needD)) := by
      rw [List.getElem?_append_right (by omega)]
      simp
    have pr : prim .reverse false [.ref (U.length + 1)] (U ++ [.lst (new.map needD), .lst ((new.drop k.toNat ++ new.take k.toNat).map needD)]) = some (.ok .non (U ++ [.lst (new.map needD), .lst ((new.drop k.toNat ++ new.take k.toNat).reverse.map needD)])) := by
      have : updS (U ++ [MO.lst (new.map needD), .lst ((new.drop k.toNat ++ new.take k.toNat).map needD)]) (U.length + 1) (.lst ((new.drop k.toNat ++ new.take k.toNat).map needD).reverse) = U ++ [.lst (new.map needD), .lst ((new.drop k.toNat ++ new.take k.toNat).reverse.map needD)] := by
        unfold updS
        rw [List.set_append_right _ _ (by omega), List.map_reverse]
        simp
      simp only [prim, g1, this]
    have x7 : exec (run Γ (d + 1)) (.ifS (.cmp .eq (.bin .mod false (.bin .fdiv false (.var 3) (.cst (.int 64))) (.cst (.int 2))) (.cst (.int 1))) (.cons (.expr (.prim .reverse false (.cons (.var 4) .nil))) .nil) .nil) (R0 o5 o6 o7 (.ref (U.length + 1)) (some (.int k))) (U ++ [.lst (new.map needD), .lst ((new.drop k.toNat ++ new.take k.toNat).map needD)]) = some (.nx (R0 o5 o6 o7 (.ref (U.length + 1)) (some (.int k))) (U ++ [.lst (new.map needD), .lst ((new.drop k.toNat ++ new.take k.toNat).reverse.map needD)])) := by
      simp only [R0, exec, execs, evB, ev, evs, List.getElem?_cons_zero, List.getElem?_cons_succ, bnd_ok, binop, d64, if_true, show (0 : Int) < 2 by decide, cmp_eq_int, q, decide_true, tru_bl, bndS_ok, recvOk, asL, g1, Option.isSome_some, pr, thn_nx]
    have x8 : exec (run Γ (d + 1)) (.ret (.var 4)) (R0 o5 o6 o7 (.ref (U.length + 1)) (some (.int k))) (U ++ [.lst (new.map needD), .lst ((new.drop k.toNat ++ new.take k.toNat).reverse.map needD)]) = some (.rt (.ref (U.length + 1)) (U ++ [.lst (new.map needD), .lst ((new.drop k.toNat ++ new.take k.toNat).reverse.map needD)])) := by
      simp only [R0, exec, ev, List.getElem?_cons_zero, List.getElem?_cons_succ, bndS_ok]
    rw [run_at hΓ rfl]
    simp only [W_needs, startR, List.map_cons, List.map_nil, List.replicate, List.cons_append, List.nil_append, Nat.reduceSub]
    rw [execs, x1, thn_nx, execs, x2, thn_nx, execs, x3, thn_nx, execs, x4, thn_nx, execs, x5, thn_nx, execs, x6, thn_nx, execs, x7, thn_nx, execs, x8, thn_rt, fin_rt]
    exact (fin _ ((List.reverse_perm _).trans rot)).2
  · refine ⟨new.drop k.toNat ++ new.take k.toNat, (fin _ rot).1, ?_⟩
    have x7 : exec (run Γ (d + 1)) (.ifS (.cmp .eq (.bin .mod false (.bin .fdiv false (.var 3) (.cst (.int 64))) (.cst (.int 2))) (.cst (.int 1))) (.cons (.expr (.prim .reverse false (.cons (.var 4) .nil))) .nil) .nil) (R0 o5 o6 o7 (.ref (U.length + 1)) (some (.int k))) (U ++ [.lst (new.map needD), .lst ((new.drop k.toNat ++ new.take k.toNat).map needD)]) = some (.nx (R0 o5 o6 o7 (.ref (U.length + 1)) (some (.int k))) (U ++ [.lst (new.map needD), .lst ((new.drop k.toNat ++ new.take k.toNat).map needD)])) := by
      simp only [R0, exec, execs, evB, ev, evs, List.getElem?_cons_zero, List.getElem?_cons_succ, bnd_ok, binop, d64, if_true, show (0 : Int) < 2 by decide, cmp_eq_int, q, decide_false, tru_bl, bndS_ok, Bool.false_eq_true, if_false]
    have x8 : exec (run Γ (d + 1)) (.ret (.var 4)) (R0 o5 o6 o7 (.ref (U.length + 1)) (some (.int k))) (U ++ [.lst (new.map needD), .lst ((new.drop k.toNat ++ new.take k.toNat).map needD)]) = some (.rt (.ref (U.length + 1)) (U ++ [.lst (new.map needD), .lst ((new.drop k.toNat ++ new.take k.toNat).map needD)])) := by
      simp only [R0, exec, ev, List.getElem?_cons_zero, List.getElem?_cons_succ, bndS_ok]
    rw [run_at hΓ rfl]
    simp only [W_needs, startR, List.map_cons, List.map_nil, List.replicate, List.cons_append, List.nil_append, Nat.reduceSub]
    rw [execs, x1, thn_nx, execs, x2, thn_nx, execs, x3, thn_nx, execs, x4, thn_nx, execs, x5, thn_nx, execs, x6, thn_nx, execs, x7, thn_nx, execs, x8, thn_rt, fin_rt]
    exact (fin _ rot).2
end
end VI

/-! Gd: what the laws of ground_by share. -/
namespace VI
def seersL (starts : List Tx) : List Tx := (dedupT starts).mergeSort leS
section
variable {C : Cal} {ρ : Rho} {U : Store} {names starts seers : List Tx} {es : List (Tx × Tx)} {goal : Tx} {needs : List (Tx × Nat)}
theorem mem_seersL {x : Tx} : x ∈ seersL starts ↔ x ∈ starts := by
  unfold seersL
  rw [(List.mergeSort_perm _ _).mem_iff, mem_dedupG]
theorem seersL_nd : (seersL starts).Nodup := (List.mergeSort_perm _ _).nodup_iff.mpr (dedupG_nd starts)
theorem seersL_len : (seersL starts).length ≤ starts.length := by
  unfold seersL
  rw [(List.mergeSort_perm _ _).length_eq]
  exact dedupG_len starts
theorem seers_set (h : starts.length ≤ 4000) : prim .sortedSet false [.lst (starts.map .str)] U = some (.ok (.lst ((seersL starts).map .str)) U) := by
  simp only [prim, asL, texts_strs, if_pos h, sort_strs, mkL, Bool.false_eq_true, if_false, seersL]
theorem Needs.mem (N : Needs names needs) {x : Tx} : x ∈ needs.map (·.1) ↔ x ∈ names := N.perm.mem_iff
theorem ggiven (w : WebOk 10 names es starts goal) (N : Needs names needs) : GGiven names (seersL starts) es needs := by
  have h1 := w.most
  have h2 := w.few
  have h3 := starts_len w
  have h4 := seersL_len (starts := starts)
  have sin : ∀ s ∈ seersL starts, s ∈ names := fun s hs => starts_in w s (mem_seersL.mp hs)
  exact ⟨⟨by omega, w.nm.sml, sin, w.edge, by omega, by omega⟩, by omega, N.perm.nodup_iff.mpr w.nm.nd, fun x hx => N.mem.mp (List.mem_map.mpr ⟨x, hx, rfl⟩), fun x hx => by have := N.num x hx; omega, fun s hs => N.mem.mpr (sin s hs)⟩
theorem lc_fst {α : Type} {i : Nat} {e : IE} {xs : List α} (g : α → D) (f : α → Tx) (hg : ∀ x, index1 (g x) (.int 0) U = some (.ok (.str (f x)) U)) (hi : i < ρ.length) (he : ev C e ρ U = some (.ok (.lst (xs.map g)) U)) (hl : xs.length ≤ SZ) :
    ev C (.lc false [i] (.var i) (.seq e) yes (.idx (.var i) (.cst (.int 0)))) ρ U = some (.ok (.lst ((xs.map f).map .str)) U) := by
  have turn : ∀ x ∈ xs, turnL (.var i) (evB C yes) (ev C (.idx (.var i) (.cst (.int 0)))) (wipe ρ [i]) (g x) U = some (.ok (some (.str (f x))) U) := fun x _ => by
    have : ((wipe ρ [i]).set i (some (g x)))[i]? = some (some (g x)) := get_set_eq (by simp [wipe, hi])
    simp only [turnL, asgT, evB_yes, bnd_ok, if_true, ev, this, hg, ret_eq, noEx_ok]
  have e5 := lcL_maps g (fun x => D.str (f x)) xs turn
  have nz : ¬ SZ < (fixS (xs.map g)).get.length := by
    rw [fixS_len, List.length_map]
    omega
  have mm : xs.map (fun x => D.str (f x)) = (xs.map f).map .str := by rw [List.map_map]; rfl
  rw [ev]
  simp only [evIt, he, bnd_ok, srcOf, if_neg nz, lcGo_fix, e5, fixS_fin, if_true, mkL, Bool.false_eq_true, if_false, mm]
/-- the names of those that need and don't hold -/
theorem lc_out {i j k : Nat} {e : IE} {held : List Tx} (hij : i ≠ j) (hik : i ≠ k) (hjk : j ≠ k) (hi : i < ρ.length) (hj : j < ρ.length) (hk : ρ[k]? = some (some (.lst (held.map .str)))) (he : ev C e ρ U = some (.ok (.lst (needs.map needD)) U)) (hl : needs.length ≤ SZ) :
    ev C (.lc false [i, j] (.tup [i, j]) (.seq e) (.cmp .notIn (.var i) (.var k)) (.var i)) ρ U = some (.ok (.lst (((needs.map (·.1)).filter fun x => decide (x ∉ held)).map .str)) U) := by
  have turn : ∀ x ∈ needs, turnL (.tup [i, j]) (evB C (.cmp .notIn (.var i) (.var k))) (ev C (.var i)) (wipe ρ [i, j]) (needD x) U = some (.ok (if decide (x.1 ∉ held) then some (.str x.1) else none) U) := by
    rintro ⟨p, n⟩ _
    have a0 : asgT U (.tup [i, j]) (needD (p, n)) (wipe ρ [i, j]) = some (((wipe ρ [i, j]).set i (some (.str p))).set j (some (.int n))) := rfl
    have g1 : (((wipe ρ [i, j]).set i (some (.str p))).set j (some (.int n)))[i]? = some (some (.str p)) := by
      rw [get_set_ne (Ne.symm hij)]
      exact get_set_eq (by simp [wipe, hi])
    have g2 : (((wipe ρ [i, j]).set i (some (.str p))).set j (some (.int n)))[k]? = some (some (.lst (held.map .str))) := by
      rw [get_set_ne hjk, get_set_ne hik]
      simp only [wipe]
      rw [get_set_ne hik, get_set_ne hjk]
      exact hk
    have hm : member U (.str p) (.lst (held.map .str)) = some (decide (p ∈ held)) := mem_strs p rfl
    unfold turnL
    rw [a0]
    simp only [evB, ev, g1, g2, bnd_ok, cmp_notIn, hm, Option.map_some, tru_bl]
    by_cases q : p ∈ held
    · simp only [q, decide_true, Bool.not_true, Bool.false_eq_true, if_false, not_true, decide_false, ret_eq, noEx_ok]
    · simp only [q, decide_false, Bool.not_false, if_true, not_false_eq_true, decide_true, ev, g1, bnd_ok, ret_eq, noEx_ok]
  have e5 := lcL_fm needD (fun x => if decide (x.1 ∉ held) then some (D.str x.1) else none) needs turn
  have nz : ¬ SZ < (fixS (needs.map needD)).get.length := by
    rw [fixS_len, List.length_map]
    omega
  have mm : ∀ l : List (Tx × Nat), l.filterMap (fun x => if decide (x.1 ∉ held) then some (D.str x.1) else none) = ((l.map (·.1)).filter fun x => decide (x ∉ held)).map .str := fun l => by
    induction l with
    | nil => rfl
    | cons x r ih =>
      rw [List.filterMap_cons, List.map_cons, List.filter_cons]
      by_cases q : x.1 ∈ held
      · simp only [q, not_true, decide_false, Bool.false_eq_true, if_false, ih]
      · simp only [q, not_false_eq_true, decide_true, if_true, ih, List.map_cons]
  rw [mm] at e5
  rw [ev]
  simp only [evIt, he, bnd_ok, srcOf, if_neg nz, lcGo_fix, e5, fixS_fin, if_true, mkL, Bool.false_eq_true, if_false]
theorem sorted_strs {l : List Tx} (h : ∀ x ∈ l, Small x) : prim .sorted1 false [.lst (l.map .str)] U = some (.ok (.lst ((l.mergeSort leS).map .str)) U) := by
  have pls : plainL (l.map D.str) 39 = true := plainL_strs h
  have snl : snapL U (l.map D.str) = some (l.map D.str) := snapL_closed (closed_strs _)
  simp only [prim, asL, snl, pls, if_true, sort_strs, mkL, Bool.false_eq_true, if_false]
theorem eqv_strs {l : List Tx} (h : ∀ x ∈ l, Small x) : eqv U (.lst (l.map .str)) (.lst (l.map .str)) = some true := by
  have pl : plain (.lst (l.map .str)) 40 = true := plainL_strs h
  have sn : snap U (.lst (l.map .str)) = some (.lst (l.map .str)) := snap_closed (closed_strs l)
  unfold eqv
  simp only [scalS, Bool.false_eq_true, if_false, sn, pl, Bool.and_self, if_true, pyeq_refl _ 40 pl]
theorem ne_strs {l : List Tx} (h : ∀ x ∈ l, Small x) : cmpop .ne U (.lst (l.map .str)) (.lst (l.map .str)) = some false := by
  show (eqv U _ _).map (! ·) = _
  rw [eqv_strs h]
  rfl
theorem eq_strs {l : List Tx} (h : ∀ x ∈ l, Small x) : cmpop .eq U (.lst (l.map .str)) (.lst (l.map .str)) = some true := eqv_strs h
theorem sort_same {a b : List Tx} (p : a.Perm b) : a.mergeSort leS = b.mergeSort leS := by
  refine List.Perm.eq_of_pairwise (le := fun a b => leS a b = true) (fun a b _ _ h1 h2 => ?_) (leS_sorted _) (leS_sorted _) ((List.mergeSort_perm _ _).trans (p.trans (List.mergeSort_perm _ _).symm))
  rw [leS_le, decide_eq_true_eq] at h1 h2
  exact List.le_antisymm h1 h2
theorem perm_of {a b : List Tx} (na : a.Nodup) (nb : b.Nodup) (h : ∀ x, x ∈ a ↔ x ∈ b) : a.Perm b := (List.perm_ext_iff_of_nodup na nb).mpr fun x => h x
theorem idx_lstU {xs : List Tx} {i : Int} (h0 : 0 ≤ i) (h1 : i < xs.length) : ∃ x ∈ xs, ∀ U, index1 (.lst (xs.map .str)) (.int i) U = some (.ok (.str x) U) := by
  obtain ⟨x, hx, e⟩ := idx_lst (U := []) h0 h1
  refine ⟨x, hx, fun U => ?_⟩
  simp only [index1, asQ, asL] at e ⊢
  cases hh : atI (xs.map D.str) i with
  | none => rw [hh] at e; cases e
  | some v =>
    rw [hh] at e
    simp only [Option.some.injEq, R.ok.injEq] at e
    simp only [e.1]
theorem row_idx (r : Rw) : index1 (rowD r) (.int 0) U = some (.ok (.str r.1) U) := idxT0
theorem cut_idx (r : Tx × List Tx) : index1 (cutD r) (.int 0) U = some (.ok (.str r.1) U) := idxT0
end
end VI

/-! K21p: the law in plain Lean (IR printed by glink.py). -/
namespace VI
def fn_Web___init___1 : ISs := (.cons (.ifS (.cmp .ne (.var 4) (.var 3))
 (.cons (.expr (.meth false "Web" "lead" (.var 0) (.cons (.glo "SOURCE" (.tup [(.str [115, 111, 117, 114, 99, 101]), (.str [])])) (.cons (.tup (.cons (.cst (.str [105, 110])) (.cons (.var 4) .nil))) .nil))))
 (.cons (.expr (.meth false "Web" "lead" (.var 0) (.cons (.tup (.cons (.cst (.str [105, 110])) (.cons (.var 4) .nil))) (.cons (.tup (.cons (.cst (.str [111, 117, 116])) (.cons (.var 4) .nil))) .nil))))
 .nil))
 .nil)
 .nil)
def fn_Web___init___2 : ISs := (.cons (.ifS (.andE (.cmp .ne (.var 5) (.var 3)) (.cmp .ne (.var 5) (.var 6)))
 (.cons (.expr (.meth false "Web" "lead" (.var 0) (.cons (.tup (.cons (.cst (.str [105, 110])) (.cons (.var 5) .nil))) (.cons (.tup (.cons (.cst (.str [111, 117, 116])) (.cons (.var 5) .nil))) .nil))))
 (.cons (.expr (.meth false "Web" "lead" (.var 0) (.cons (.tup (.cons (.cst (.str [111, 117, 116])) (.cons (.var 5) .nil))) (.cons (.tup (.cons (.cst (.str [105, 110])) (.cons (.var 6) .nil))) .nil))))
 (.cons (.ifS (.cmp .ne (.var 6) (.var 3))
 (.cons (.expr (.meth false "Web" "lead" (.var 0) (.cons (.tup (.cons (.cst (.str [105, 110])) (.cons (.var 6) .nil))) (.cons (.tup (.cons (.cst (.str [111, 117, 116])) (.cons (.var 6) .nil))) .nil))))
 .nil)
 .nil)
 .nil)))
 .nil)
 .nil)
def fn_Web___init__ : Fn := ⟨4, 7,
 (.cons (.asgF (.var 0) "goal" (.tup (.cons (.cst (.str [105, 110])) (.cons (.var 3) .nil))))
 (.cons (.asgF (.var 0) "leads" (.done true 1 (.glo "SOURCE" (.tup [(.str [115, 111, 117, 114, 99, 101]), (.str [])])) (.lst true .nil)))
 (.cons (.asgF (.var 0) "backs" (.done true 1 (.glo "SOURCE" (.tup [(.str [115, 111, 117, 114, 99, 101]), (.str [])])) (.lst true .nil)))
 (.cons (.asgF (.var 0) "used" (.dnil true 1))
 (.cons (.forS (.var 4) (.seq (.var 2)) fn_Web___init___1)
 (.cons (.forS (.tup [5, 6]) (.seq (.var 1)) fn_Web___init___2)
 .nil))))))⟩
def fn_Web_lead_1 : ISs := (.cons (.ifS (.cmp .notIn (.var 3) (.fld (.var 0) "leads"))
 (.cons (.asgI (.fld (.var 0) "leads") (.var 3) (.lst true .nil))
 (.cons (.asgI (.fld (.var 0) "backs") (.var 3) (.lst true .nil))
 .nil))
 .nil)
 .nil)
def fn_Web_lead : Fn := ⟨3, 4,
 (.cons (.forS (.var 3) (.seq (.tup (.cons (.var 1) (.cons (.var 2) .nil)))) fn_Web_lead_1)
 (.cons (.ifS (.cmp .notIn (.var 2) (.idx (.fld (.var 0) "leads") (.var 1)))
 (.cons (.expr (.prim .append false (.cons (.idx (.fld (.var 0) "leads") (.var 1)) (.cons (.var 2) .nil))))
 (.cons (.expr (.prim .append false (.cons (.idx (.fld (.var 0) "backs") (.var 2)) (.cons (.var 1) .nil))))
 .nil))
 .nil)
 .nil))⟩
def fn_Web_steps_1 : ISs := (.cons (.ifS (.orE (.cmp .notIn (.tup (.cons (.var 1) (.cons (.var 3) .nil))) (.fld (.var 0) "used")) (.cmp .ne (.idx (.var 1) (.cst (.int 0))) (.cst (.str [105, 110]))))
 (.cons (.expr (.prim .append false (.cons (.var 2) (.cons (.var 3) .nil))))
 .nil)
 .nil)
 .nil)
def fn_Web_steps_2 : ISs := (.cons (.ifS (.cmp .isIn (.tup (.cons (.var 3) (.cons (.var 1) .nil))) (.fld (.var 0) "used"))
 (.cons (.expr (.prim .append false (.cons (.var 2) (.cons (.var 3) .nil))))
 .nil)
 .nil)
 .nil)
def fn_Web_steps : Fn := ⟨2, 4,
 (.cons (.asg (.var 2) (.lst true .nil))
 (.cons (.forS (.var 3) (.seq (.idx (.fld (.var 0) "leads") (.var 1))) fn_Web_steps_1)
 (.cons (.forS (.var 3) (.seq (.idx (.fld (.var 0) "backs") (.var 1))) fn_Web_steps_2)
 (.cons (.ret (.var 2))
 .nil))))⟩
def fn_Web_reach_1 : IE := (.andE (.cmp .lt (.var 3) (.prim .len false (.cons (.var 2) .nil))) (.cmp .notIn (.fld (.var 0) "goal") (.var 1)))
def fn_Web_reach_2 : ISs := (.cons (.ifS (.cmp .notIn (.var 4) (.var 1))
 (.cons (.asgI (.var 1) (.var 4) (.idx (.var 2) (.var 3)))
 (.cons (.expr (.prim .append false (.cons (.var 2) (.cons (.var 4) .nil))))
 .nil))
 .nil)
 .nil)
def fn_Web_reach_3 : ISs := (.cons (.forS (.var 4) (.seq (.meth true "Web" "steps" (.var 0) (.cons (.idx (.var 2) (.var 3)) .nil))) fn_Web_reach_2)
 (.cons (.aug 3 .add (.cst (.int 1)))
 .nil))
def fn_Web_reach : Fn := ⟨1, 5,
 (.cons (.asg (.var 1) (.done true 1 (.glo "SOURCE" (.tup [(.str [115, 111, 117, 114, 99, 101]), (.str [])])) (.glo "SOURCE" (.tup [(.str [115, 111, 117, 114, 99, 101]), (.str [])]))))
 (.cons (.asg (.var 2) (.lst true (.cons (.glo "SOURCE" (.tup [(.str [115, 111, 117, 114, 99, 101]), (.str [])])) .nil)))
 (.cons (.asg (.var 3) (.cst (.int 0)))
 (.cons (.whileS fn_Web_reach_1 fn_Web_reach_3)
 (.cons (.ret (.var 1))
 .nil)))))⟩
def fn_Web_turn_1 : IE := (.cmp .ne (.var 2) (.glo "SOURCE" (.tup [(.str [115, 111, 117, 114, 99, 101]), (.str [])])))
def fn_Web_turn_2 : ISs := (.cons (.asg (.var 3) (.idx (.var 1) (.var 2)))
 (.cons (.ifS (.cmp .isIn (.tup (.cons (.var 2) (.cons (.var 3) .nil))) (.fld (.var 0) "used"))
 (.cons (.expr (.prim .popD false (.cons (.fld (.var 0) "used") (.cons (.tup (.cons (.var 2) (.cons (.var 3) .nil))) .nil))))
 .nil)
 (.cons (.asgI (.fld (.var 0) "used") (.tup (.cons (.var 3) (.cons (.var 2) .nil))) (.cst (.bl true)))
 .nil))
 (.cons (.asg (.var 2) (.var 3))
 .nil)))
def fn_Web_turn : Fn := ⟨2, 4,
 (.cons (.asg (.var 2) (.fld (.var 0) "goal"))
 (.cons (.whileS fn_Web_turn_1 fn_Web_turn_2)
 .nil))⟩
def fn_Web_behind_1 : ISs := (.cons (.ifS (.cmp .isIn (.tup (.cons (.var 1) (.cons (.var 2) .nil))) (.fld (.var 0) "used"))
 (.cons (.ret (.var 2))
 .nil)
 .nil)
 .nil)
def fn_Web_behind : Fn := ⟨2, 3,
 (.cons (.forS (.var 2) (.seq (.idx (.fld (.var 0) "leads") (.var 1))) fn_Web_behind_1)
 (.cons (.ret (.fld (.var 0) "goal"))
 .nil))⟩
def fn_Web_chains_1 : IE := (.cmp .ne (.var 4) (.fld (.var 0) "goal"))
def fn_Web_chains_2 : ISs := (.cons (.expr (.prim .append false (.cons (.var 3) (.cons (.idx (.var 4) (.cst (.int 1))) .nil))))
 (.cons (.asg (.var 4) (.meth true "Web" "behind" (.var 0) (.cons (.tup (.cons (.cst (.str [111, 117, 116])) (.cons (.idx (.var 4) (.cst (.int 1))) .nil))) .nil)))
 .nil))
def fn_Web_chains_3 : ISs := (.cons (.ifS (.cmp .isIn (.tup (.cons (.glo "SOURCE" (.tup [(.str [115, 111, 117, 114, 99, 101]), (.str [])])) (.cons (.var 2) .nil))) (.fld (.var 0) "used"))
 (.cons (.asg (.var 3) (.lst true .nil))
 (.cons (.asg (.var 4) (.var 2))
 (.cons (.whileS fn_Web_chains_1 fn_Web_chains_2)
 (.cons (.expr (.prim .append false (.cons (.var 1) (.cons (.var 3) .nil))))
 .nil))))
 .nil)
 .nil)
def fn_Web_chains : Fn := ⟨1, 5,
 (.cons (.asg (.var 1) (.lst true .nil))
 (.cons (.forS (.var 2) (.seq (.idx (.fld (.var 0) "leads") (.glo "SOURCE" (.tup [(.str [115, 111, 117, 114, 99, 101]), (.str [])])))) fn_Web_chains_3)
 (.cons (.ret (.prim .sorted1 false (.cons (.var 1) .nil)))
 .nil)))⟩
def fn_woven_1 : IE := (.andE (.cmp .isIn (.fld (.var 4) "goal") (.var 6)) (.cmp .lt (.var 5) (.var 3)))
def fn_woven_2 : ISs := (.cons (.expr (.meth false "Web" "turn" (.var 4) (.cons (.var 6) .nil)))
 (.cons (.aug 5 .add (.cst (.int 1)))
 (.cons (.asg (.var 6) (.meth true "Web" "reach" (.var 4) .nil))
 .nil)))
def fn_woven : Fn := ⟨4, 7,
 (.cons (.asg (.var 4) (.make "Web" (.cons (.var 0) (.cons (.var 1) (.cons (.var 2) .nil)))))
 (.cons (.asg (.var 5) (.cst (.int 0)))
 (.cons (.asg (.var 6) (.meth true "Web" "reach" (.var 4) .nil))
 (.cons (.whileS fn_woven_1 fn_woven_2)
 (.cons (.ret (.tup (.cons (.var 4) (.cons (.var 6) .nil))))
 .nil)))))⟩
def fn_apart_up_to : Fn := ⟨4, 4,
 (.cons (.ret (.meth true "Web" "chains" (.idx (.call false "woven" (.cons (.var 0) (.cons (.var 1) (.cons (.var 2) (.cons (.var 3) .nil))))) (.cst (.int 0))) .nil))
 .nil)⟩
def fn_apart_chains_1 : IE := (.andE (.cmp .eq (.idx (.var 6) (.cst (.int 0))) (.cst (.str [105, 110]))) (.cmp .notIn (.tup (.cons (.cst (.str [111, 117, 116])) (.cons (.idx (.var 6) (.cst (.int 1))) .nil))) (.var 4)))
def fn_apart_chains_2 : IE := (.idx (.var 6) (.cst (.int 1)))
def fn_apart_chains : Fn := ⟨3, 7,
 (.cons (.asg (.tup [3, 4]) (.call false "woven" (.cons (.var 0) (.cons (.var 1) (.cons (.var 2) (.cons (.prim .len false (.cons (.var 1) .nil)) .nil))))))
 (.cons (.asg (.var 5) (.lc false [6] (.var 6) (.keys 4) fn_apart_chains_1 fn_apart_chains_2))
 (.cons (.ret (.tup (.cons (.meth true "Web" "chains" (.var 3) .nil) (.cons (.prim .sorted1 false (.cons (.var 5) .nil)) .nil))))
 .nil)))⟩
def fn_edges_within_1 : IE := (.andE (.cmp .isIn (.idx (.var 3) (.cst (.int 0))) (.var 1)) (.orE (.cmp .isIn (.idx (.var 3) (.cst (.int 1))) (.var 1)) (.cmp .eq (.idx (.var 3) (.cst (.int 1))) (.var 2))))
def fn_edges_within_2 : IE := (.var 3)
def fn_edges_within : Fn := ⟨3, 4,
 (.cons (.ret (.lc false [3] (.var 3) (.seq (.var 0)) fn_edges_within_1 fn_edges_within_2))
 .nil)⟩
def fn_near_ones_1 : IE := (.andE (.cmp .eq (.var 4) (.var 2)) (.cmp .isIn (.var 3) (.var 1)))
def fn_near_ones_2 : IE := (.var 3)
def fn_near_ones : Fn := ⟨3, 5,
 (.cons (.ret (.prim .sortedSet false (.cons (.lc false [3, 4] (.tup [3, 4]) (.seq (.var 0)) fn_near_ones_1 fn_near_ones_2) .nil)))
 .nil)⟩
def fn_ground_by_1 : IE := (.cmp .isIn (.var 4) (.var 1))
def fn_ground_by_2 : IE := (.tup (.cons (.var 4) (.cons (.lst false .nil) .nil)))
def fn_ground_by_3 : ISs := (.cons (.asgI (.var 6) (.var 4) (.cst (.bl true)))
 .nil)
def fn_ground_by_4 : IE := (.var 8)
def fn_ground_by_5 : ISs := (.cons (.ifS (.andE (.cmp .notIn (.var 4) (.var 6)) (.cmp .ge (.prim .len false (.cons (.call true "near_ones" (.cons (.var 0) (.cons (.var 6) (.cons (.var 4) .nil)))) .nil)) (.var 5)))
 (.cons (.asg (.var 7) (.call true "apart_up_to" (.cons (.call true "edges_within" (.cons (.var 0) (.cons (.var 6) (.cons (.var 4) .nil)))) (.cons (.var 1) (.cons (.var 4) (.cons (.var 5) .nil))))))
 (.cons (.ifS (.cmp .eq (.prim .len false (.cons (.var 7) .nil)) (.var 5))
 (.cons (.expr (.prim .append false (.cons (.var 3) (.cons (.tup (.cons (.var 4) (.cons (.var 7) .nil))) .nil))))
 (.cons (.asgI (.var 6) (.var 4) (.cst (.bl true)))
 (.cons (.asg (.var 8) (.cst (.bl true)))
 .nil)))
 .nil)
 .nil))
 .nil)
 .nil)
def fn_ground_by_6 : ISs := (.cons (.asg (.var 8) (.cst (.bl false)))
 (.cons (.forS (.tup [4, 5]) (.seq (.var 2)) fn_ground_by_5)
 .nil))
def fn_ground_by_7 : ISs := (.cons (.ifS (.cmp .notIn (.var 4) (.var 6))
 (.cons (.expr (.prim .append false (.cons (.var 9) (.cons (.tup (.cons (.var 4) (.cons (.idx (.call true "apart_chains" (.cons (.call true "edges_within" (.cons (.var 0) (.cons (.var 6) (.cons (.var 4) .nil)))) (.cons (.var 1) (.cons (.var 4) .nil)))) (.cst (.int 1))) .nil))) .nil))))
 .nil)
 .nil)
 .nil)
def fn_ground_by : Fn := ⟨3, 10,
 (.cons (.asg (.var 3) (.lc true [4, 5] (.tup [4, 5]) (.seq (.var 2)) fn_ground_by_1 fn_ground_by_2))
 (.cons (.asg (.var 6) (.dnil true 0))
 (.cons (.forS (.tup [4, 7]) (.seq (.var 3)) fn_ground_by_3)
 (.cons (.asg (.var 8) (.cst (.bl true)))
 (.cons (.whileS fn_ground_by_4 fn_ground_by_6)
 (.cons (.asg (.var 9) (.lst true .nil))
 (.cons (.forS (.tup [4, 5]) (.seq (.var 2)) fn_ground_by_7)
 (.cons (.ret (.tup (.cons (.var 3) (.cons (.var 9) .nil))))
 .nil))))))))⟩
def fn__law_cell : Fn := ⟨2, 2,
 (.cons (.ifS (.cmp .lt (.var 1) (.prim .len false (.cons (.var 0) .nil)))
 (.cons (.ret (.idx (.var 0) (.var 1)))
 .nil)
 .nil)
 (.cons (.ret (.cst (.int 0)))
 .nil))⟩
def fn__law_mixed : Fn := ⟨2, 3,
 (.cons (.asg (.var 2) (.bin .mod false (.bin .add false (.bin .mul false (.bin .mod false (.var 0) (.cst (.int 2147483647))) (.cst (.int 48271))) (.bin .mul false (.bin .add false (.bin .add false (.bin .mul false (.var 1) (.var 1)) (.bin .mul false (.cst (.int 3)) (.var 1))) (.cst (.int 7))) (.cst (.int 69621)))) (.cst (.int 2147483647))))
 (.cons (.ret (.bin .mod false (.bin .mul false (.var 2) (.var 2)) (.cst (.int 2147483647))))
 .nil))⟩
def fn__law_names_1 : IE := (.bin .mul false (.var 3) (.bin .sub false (.var 1) (.var 5)))
def fn__law_names_2 : IE := (.var 3)
def fn__law_names_3 : ISs := (.cons (.asg (.var 9) (.lc true [10] (.var 10) (.range1 (.var 6)) yes fn__law_names_2))
 (.cons (.asgI (.var 9) (.var 7) (.idx (.var 4) (.bin .mod false (.bin .add false (.bin .fdiv false (.var 2) (.cst (.int 4200))) (.bin .mul false (.cst (.int 3)) (.var 5))) (.cst (.int 20)))))
 (.cons (.asgI (.var 9) (.bin .mod false (.bin .add false (.var 7) (.cst (.int 1))) (.var 6)) (.idx (.var 4) (.bin .mod false (.bin .add false (.bin .fdiv false (.var 2) (.cst (.int 84000))) (.bin .fdiv false (.var 5) (.cst (.int 20)))) (.cst (.int 20)))))
 (.cons (.expr (.prim .append false (.cons (.var 8) (.cons (.prim .join false (.cons (.cst (.str [])) (.cons (.var 9) .nil))) .nil))))
 .nil))))
def fn__law_names : Fn := ⟨2, 11,
 (.cons (.asg (.var 2) (.call true "_law_mixed" (.cons (.var 0) (.cons (.cst (.int 3)) .nil))))
 (.cons (.asg (.var 3) (.idx (.cst (.str [97, 98, 99, 100, 101, 102, 103, 104, 105, 106, 107, 108, 109, 110, 112, 113, 114, 115, 116, 118, 119, 120, 121, 122])) (.bin .mod false (.var 2) (.cst (.int 24)))))
 (.cons (.asg (.var 4) (.cst (.str [98, 99, 100, 102, 103, 104, 106, 107, 108, 109, 110, 112, 113, 114, 115, 116, 118, 119, 120, 122])))
 (.cons (.ifS (.andE (.cmp .eq (.bin .mod false (.bin .fdiv false (.var 2) (.cst (.int 25))) (.cst (.int 3))) (.cst (.int 0))) (.cmp .lt (.var 1) (.cst (.int 9))))
 (.cons (.ret (.lc false [5] (.var 5) (.range1 (.var 1)) yes fn__law_names_1))
 .nil)
 .nil)
 (.cons (.asg (.var 6) (.bin .add false (.cst (.int 2)) (.bin .mod false (.bin .fdiv false (.var 2) (.cst (.int 75))) (.cst (.int 7)))))
 (.cons (.asg (.var 7) (.bin .mod false (.bin .fdiv false (.var 2) (.cst (.int 525))) (.var 6)))
 (.cons (.asg (.var 8) (.lst true .nil))
 (.cons (.forS (.var 5) (.range1 (.var 1)) fn__law_names_3)
 (.cons (.ret (.var 8))
 .nil)))))))))⟩
def fn__law_fold_1 : ISs := (.cons (.asg (.var 1) (.bin .mod false (.bin .add false (.bin .add false (.bin .mul false (.var 1) (.cst (.int 1000003))) (.var 2)) (.cst (.int 1))) (.cst (.int 2147483647))))
 .nil)
def fn__law_fold : Fn := ⟨1, 3,
 (.cons (.asg (.var 1) (.cst (.int 0)))
 (.cons (.forS (.var 2) (.seq (.var 0)) fn__law_fold_1)
 (.cons (.ret (.var 1))
 .nil)))⟩
def fn__law_web_1 : ISs := (.cons (.asg (.var 9) (.call true "_law_mixed" (.cons (.bin .add false (.var 2) (.var 7)) (.cons (.bin .add false (.bin .add false (.bin .mul false (.cst (.int 2)) (.var 6)) (.var 8)) (.cst (.int 20))) .nil))))
 (.cons (.asg (.var 10) (.bin .mod false (.var 9) (.prim .len false (.cons (.var 4) .nil))))
 (.cons (.asg (.var 11) (.bin .mod false (.bin .fdiv false (.var 9) (.cst (.int 16))) (.prim .len false (.cons (.var 4) .nil))))
 (.cons (.ifS (.cmp .gt (.bin .mod false (.bin .fdiv false (.var 3) (.cst (.int 9))) (.cst (.int 3))) (.cst (.int 0)))
 (.cons (.asg (.var 11) (.bin .mod false (.bin .add false (.bin .add false (.var 10) (.cst (.int 1))) (.bin .mod false (.bin .fdiv false (.var 9) (.cst (.int 16))) (.cst (.int 3)))) (.prim .len false (.cons (.var 4) .nil))))
 .nil)
 .nil)
 (.cons (.ifS (.cmp .eq (.bin .mod false (.bin .fdiv false (.var 9) (.cst (.int 256))) (.idx (.lst false (.cons (.cst (.int 1)) (.cons (.cst (.int 2)) (.cons (.cst (.int 4)) .nil)))) (.bin .mod false (.bin .fdiv false (.var 3) (.cst (.int 27))) (.cst (.int 3))))) (.cst (.int 0)))
 (.cons (.expr (.prim .append false (.cons (.var 5) (.cons (.tup (.cons (.idx (.var 4) (.var 10)) (.cons (.idx (.var 4) (.var 11)) .nil))) .nil))))
 .nil)
 .nil)
 .nil)))))
def fn__law_web_2 : ISs := (.cons (.forS (.var 8) (.range1 (.bin .add false (.cst (.int 1)) (.bin .mod false (.bin .fdiv false (.var 3) (.cst (.int 5000))) (.cst (.int 2))))) fn__law_web_1)
 .nil)
def fn__law_web_3 : ISs := (.cons (.ifS (.cmp .eq (.bin .mod false (.call true "_law_mixed" (.cons (.var 2) (.cons (.bin .add false (.cst (.int 200)) (.var 6)) .nil))) (.idx (.lst false (.cons (.cst (.int 2)) (.cons (.cst (.int 3)) (.cons (.cst (.int 2)) (.cons (.cst (.int 6)) .nil))))) (.bin .mod false (.bin .fdiv false (.var 3) (.cst (.int 81))) (.cst (.int 4))))) (.cst (.int 0)))
 (.cons (.expr (.prim .append false (.cons (.var 12) (.cons (.var 13) .nil))))
 .nil)
 .nil)
 .nil)
def fn__law_web : Fn := ⟨2, 14,
 (.cons (.asg (.var 2) (.call true "_law_fold" (.cons (.var 0) .nil)))
 (.cons (.asg (.var 3) (.call true "_law_mixed" (.cons (.var 2) (.cons (.cst (.int 1)) .nil))))
 (.cons (.asg (.var 4) (.call true "_law_names" (.cons (.var 2) (.cons (.bin .add false (.cst (.int 2)) (.bin .mod false (.var 3) (.bin .sub false (.var 1) (.cst (.int 1))))) .nil))))
 (.cons (.asg (.var 5) (.lst true .nil))
 (.cons (.forS (.tup [6, 7]) (.enum (.slc false (.var 0) (.cst .non) (.cst (.int 63))) 0) fn__law_web_2)
 (.cons (.asg (.var 12) (.lst true .nil))
 (.cons (.forS (.tup [6, 13]) (.enum (.var 4) 0) fn__law_web_3)
 (.cons (.ifS (.cmp .eq (.bin .mod false (.bin .fdiv false (.var 3) (.cst (.int 324))) (.cst (.int 4))) (.cst (.int 0)))
 (.cons (.asg (.var 12) (.bin .add true (.var 12) (.slc false (.var 12) (.cst .non) (.cst (.int 1)))))
 .nil)
 .nil)
 (.cons (.ret (.tup (.cons (.var 4) (.cons (.var 5) (.cons (.var 12) (.cons (.idx (.var 4) (.bin .mod false (.bin .fdiv false (.var 3) (.cst (.int 1296))) (.prim .len false (.cons (.var 4) .nil)))) .nil))))))
 .nil)))))))))⟩
def fn__law_needs_1 : ISs := (.cons (.asg (.var 7) (.call true "_law_mixed" (.cons (.var 2) (.cons (.bin .add false (.cst (.int 600)) (.var 5)) .nil))))
 (.cons (.expr (.prim .append false (.cons (.var 4) (.cons (.tup (.cons (.var 6) (.cons (.bin .add false (.cst (.int 1)) (.idx (.lst false (.cons (.cst (.int 0)) (.cons (.bin .mod false (.var 7) (.cst (.int 2))) (.cons (.bin .mod false (.var 7) (.cst (.int 3))) (.cons (.bin .mod false (.var 7) (.cst (.int 5))) .nil))))) (.bin .mod false (.var 3) (.cst (.int 4))))) .nil))) .nil))))
 .nil))
def fn__law_needs : Fn := ⟨2, 9,
 (.cons (.asg (.var 2) (.call true "_law_fold" (.cons (.var 0) .nil)))
 (.cons (.asg (.var 3) (.call true "_law_mixed" (.cons (.var 2) (.cons (.cst (.int 3)) .nil))))
 (.cons (.asg (.var 4) (.lst true .nil))
 (.cons (.forS (.tup [5, 6]) (.enum (.var 1) 0) fn__law_needs_1)
 (.cons (.asg (.var 8) (.bin .mod false (.bin .fdiv false (.var 3) (.cst (.int 4))) (.prim .len false (.cons (.var 1) .nil))))
 (.cons (.asg (.var 4) (.bin .add true (.slc false (.var 4) (.var 8) (.cst .non)) (.slc false (.var 4) (.cst .non) (.var 8))))
 (.cons (.ifS (.cmp .eq (.bin .mod false (.bin .fdiv false (.var 3) (.cst (.int 64))) (.cst (.int 2))) (.cst (.int 1)))
 (.cons (.expr (.prim .reverse false (.cons (.var 4) .nil)))
 .nil)
 .nil)
 (.cons (.ret (.var 4))
 .nil))))))))⟩
def fn_law_1 : IE := (.tup (.cons (.var 7) (.cons (.cst (.int 1)) .nil)))
def fn_law_2 : ISs := (.cons (.ifS (.andE (.cmp .isIn (.var 13) (.var 11)) (.cmp .notIn (.var 14) (.var 11)))
 (.cons (.expr (.prim .append false (.cons (.var 11) (.cons (.var 14) .nil))))
 .nil)
 .nil)
 .nil)
def fn_law_3 : ISs := (.cons (.forS (.tup [13, 14]) (.seq (.var 2)) fn_law_2)
 .nil)
def fn_law_4 : IE := (.idx (.var 15) (.cst (.int 0)))
def fn_law_5 : IE := (.cmp .notIn (.var 7) (.var 11))
def fn_law_6 : IE := (.tup (.cons (.var 7) (.cons (.lst false .nil) .nil)))
def fn_law : Fn := ⟨1, 16,
 (.cons (.asg (.tup [1, 2, 3, 4]) (.call true "_law_web" (.cons (.var 0) (.cons (.cst (.int 10)) .nil))))
 (.cons (.asg (.var 5) (.prim .sortedSet false (.cons (.var 3) .nil)))
 (.cons (.asg (.var 6) (.lc false [7, 8] (.tup [7, 8]) (.seq (.call true "_law_needs" (.cons (.var 0) (.cons (.var 1) .nil)))) yes fn_law_1))
 (.cons (.asg (.tup [9, 10]) (.call true "ground_by" (.cons (.prim .list1 false (.cons (.var 2) .nil)) (.cons (.prim .list1 false (.cons (.var 5) .nil)) (.cons (.prim .list1 false (.cons (.var 6) .nil)) .nil)))))
 (.cons (.asg (.var 11) (.prim .list1 true (.cons (.var 5) .nil)))
 (.cons (.forS (.var 12) (.range1 (.cst (.int 10))) fn_law_3)
 (.cons (.ifS (.cmp .ne (.prim .sorted1 false (.cons (.lc false [15] (.var 15) (.seq (.var 9)) yes fn_law_4) .nil)) (.prim .sorted1 false (.cons (.var 11) .nil)))
 (.cons (.ret (.cst (.bl false)))
 .nil)
 .nil)
 (.cons (.ret (.cmp .eq (.var 10) (.lc false [7, 8] (.tup [7, 8]) (.seq (.var 6)) fn_law_5 fn_law_6)))
 .nil))))))))⟩
def tab : Tab := fun f => match f with
  | "Web.__init__" => some fn_Web___init__
  | "Web.lead" => some fn_Web_lead
  | "Web.steps" => some fn_Web_steps
  | "Web.reach" => some fn_Web_reach
  | "Web.turn" => some fn_Web_turn
  | "Web.behind" => some fn_Web_behind
  | "Web.chains" => some fn_Web_chains
  | "woven" => some fn_woven
  | "apart_up_to" => some fn_apart_up_to
  | "apart_chains" => some fn_apart_chains
  | "edges_within" => some fn_edges_within
  | "near_ones" => some fn_near_ones
  | "ground_by" => some fn_ground_by
  | "_law_cell" => some fn__law_cell
  | "_law_mixed" => some fn__law_mixed
  | "_law_names" => some fn__law_names
  | "_law_fold" => some fn__law_fold
  | "_law_web" => some fn__law_web
  | "_law_needs" => some fn__law_needs
  | "law" => some fn_law
  | _ => none
theorem tab_Web___init__ : tab "Web.__init__" = some fn_Web___init__ := rfl
theorem tab_Web_lead : tab "Web.lead" = some fn_Web_lead := rfl
theorem tab_Web_steps : tab "Web.steps" = some fn_Web_steps := rfl
theorem tab_Web_reach : tab "Web.reach" = some fn_Web_reach := rfl
theorem tab_Web_turn : tab "Web.turn" = some fn_Web_turn := rfl
theorem tab_Web_behind : tab "Web.behind" = some fn_Web_behind := rfl
theorem tab_Web_chains : tab "Web.chains" = some fn_Web_chains := rfl
theorem tab_woven : tab "woven" = some fn_woven := rfl
theorem tab_apart_up_to : tab "apart_up_to" = some fn_apart_up_to := rfl
theorem tab_apart_chains : tab "apart_chains" = some fn_apart_chains := rfl
theorem tab_edges_within : tab "edges_within" = some fn_edges_within := rfl
theorem tab_near_ones : tab "near_ones" = some fn_near_ones := rfl
theorem tab_ground_by : tab "ground_by" = some fn_ground_by := rfl
theorem tab__law_cell : tab "_law_cell" = some fn__law_cell := rfl
theorem tab__law_mixed : tab "_law_mixed" = some fn__law_mixed := rfl
theorem tab__law_names : tab "_law_names" = some fn__law_names := rfl
theorem tab__law_fold : tab "_law_fold" = some fn__law_fold := rfl
theorem tab__law_web : tab "_law_web" = some fn__law_web := rfl
theorem tab__law_needs : tab "_law_needs" = some fn__law_needs := rfl
theorem tab_law : tab "law" = some fn_law := rfl
theorem hasGround : HasGround tab := ⟨⟨rfl, rfl, rfl, rfl, rfl, rfl, rfl, rfl⟩, rfl, rfl, rfl, rfl, rfl⟩
/-! ### going on from the seers -/
def comeF (l : List Tx) (e : Tx × Tx) : List Tx := if e.1 ∈ l ∧ e.2 ∉ l then l ++ [e.2] else l
theorem comeF_pre {l : List Tx} {e : Tx × Tx} : l <+: comeF l e := by
  unfold comeF
  split
  · exact List.prefix_append _ _
  · exact List.prefix_refl _
theorem come_pre : ∀ (es : List (Tx × Tx)) (l : List Tx), l <+: es.foldl comeF l
  | [], l => List.prefix_refl _
  | e :: r, l => comeF_pre.trans (come_pre r (comeF l e))
theorem come_all : ∀ (es : List (Tx × Tx)) (l : List Tx) (e : Tx × Tx), e ∈ es → e.1 ∈ l → e.2 ∈ es.foldl comeF l
  | x :: r, l, e, he, h1 => by
    rcases List.mem_cons.mp he with rfl | he
    · refine (come_pre r (comeF l e)).subset ?_
      unfold comeF
      by_cases q : e.2 ∈ l
      · rw [if_neg fun z => z.2 q]; exact q
      · rw [if_pos ⟨h1, q⟩]; simp
    · exact come_all r (comeF l x) e he (comeF_pre.subset h1)
theorem come_in {H : List Tx} : ∀ (es : List (Tx × Tx)) (l : List Tx), (∀ e ∈ es, e.1 ∈ H → e.2 ∈ H) → (∀ x ∈ l, x ∈ H) → ∀ x ∈ es.foldl comeF l, x ∈ H
  | [], l, _, hl => hl
  | e :: r, l, hc, hl => by
    refine come_in r (comeF l e) (fun e' he => hc e' (by simp [he])) fun x hx => ?_
    unfold comeF at hx
    split at hx
    · rename_i q
      rcases List.mem_append.mp hx with hx | hx
      · exact hl x hx
      · simp only [List.mem_singleton] at hx
        subst hx
        exact hc e (by simp) (hl _ q.1)
    · exact hl x hx
theorem come_nd : ∀ (es : List (Tx × Tx)) (l : List Tx), l.Nodup → (es.foldl comeF l).Nodup
  | [], l, h => h
  | e :: r, l, h => by
    refine come_nd r (comeF l e) ?_
    unfold comeF
    split
    · rename_i q
      rw [List.nodup_append]
      refine ⟨h, by simp, fun x hx y hy z => ?_⟩
      simp only [List.mem_singleton] at hy
      subst hy z
      exact q.2 hx
    · exact h
structure Came21 (es : List (Tx × Tx)) (seers H : List Tx) (k : Nat) (l : List Tx) : Prop where
  nd : l.Nodup
  inH : ∀ x ∈ l, x ∈ H
  se : ∀ x ∈ seers, x ∈ l
  more : (∀ e ∈ es, e.1 ∈ l → e.2 ∈ l) ∨ k + 1 ≤ l.length
theorem Came21.next {es : List (Tx × Tx)} {seers H l : List Tx} {k : Nat} (c : Came21 es seers H k l) (hc : ∀ e ∈ es, e.1 ∈ H → e.2 ∈ H) : Came21 es seers H (k + 1) (es.foldl comeF l) := by
  have p := come_pre es l
  refine ⟨come_nd es l c.nd, come_in es l hc c.inH, fun x hx => p.subset (c.se x hx), ?_⟩
  by_cases q : es.foldl comeF l = l
  · refine .inl fun e he h1 => ?_
    rw [q] at h1 ⊢
    have := come_all es l e he h1
    rwa [q] at this
  · rcases c.more with h | h
    · exfalso
      apply q
      have key : ∀ (r : List (Tx × Tx)), (∀ e ∈ r, e.1 ∈ l → e.2 ∈ l) → r.foldl comeF l = l := fun r => by
        induction r with
        | nil => intro _; rfl
        | cons e r ih =>
          intro hr
          have : comeF l e = l := by
            unfold comeF
            rw [if_neg fun z => z.2 (hr e (by simp) z.1)]
          rw [List.foldl_cons, this]
          exact ih fun e' he => hr e' (by simp [he])
      exact key es h
    · refine .inr ?_
      have := p.length_le
      have : l.length ≠ (es.foldl comeF l).length := fun z => q (p.eq_of_length z).symm
      omega
theorem rows_in {es : List (Tx × Tx)} {seers l : List Tx} {needs : List (Tx × Nat)} {rows : List Rw} (r : Rows es seers needs rows) (h1 : ∀ p n, (p, n) ∈ needs → 1 ≤ n) (hs : ∀ s ∈ seers, s ∈ l) (hc : ∀ e ∈ es, e.1 ∈ l → e.2 ∈ l) : ∀ x ∈ rows.map (·.1), x ∈ l := by
  induction r with
  | nil => intro x hx; cases hx
  | seer h hp new ih =>
    intro x hx
    rw [List.map_append, List.mem_append] at hx
    rcases hx with hx | hx
    · exact ih x hx
    · simp only [List.map_cons, List.map_nil, List.mem_singleton] at hx
      subst hx
      exact hs _ hp
  | @led a p n cs h hp new hn fam len ih =>
    intro x hx
    rw [List.map_append, List.mem_append] at hx
    rcases hx with hx | hx
    · exact ih x hx
    · simp only [List.map_cons, List.map_nil, List.mem_singleton] at hx
      subst hx
      have n1 := h1 _ _ hn
      obtain ⟨c, hcc⟩ : ∃ c, c ∈ cs := List.exists_mem_of_length_pos (by omega)
      have ch := fam.chain c hcc
      have l0 : 0 < c.length := List.length_pos_iff.mpr ch.ne
      have hz : c[c.length - 1]? = some (c[c.length - 1]'(by omega)) := List.getElem?_eq_getElem _
      obtain ⟨e1, e2, _⟩ := mem_within.mp (ch.last (c.length - 1) _ (by omega) hz)
      exact hc _ e1 (ih _ e2)
theorem come_turn {C : Cal} {a0 a1 a2 a3 a4 a5 a6 a7 a8 a9 a10 a12 o13 o14 : Option D} {l : List Tx} (hl : l.length < SZ) (e : Tx × Tx) :
    turnF (.tup [13, 14]) (execs C fn_law_2) (eD e) [a0, a1, a2, a3, a4, a5, a6, a7, a8, a9, a10, some (.ref 0), a12, o13, o14, none] [.lst (l.map .str)] =
      some (.nx [a0, a1, a2, a3, a4, a5, a6, a7, a8, a9, a10, some (.ref 0), a12, some (.str e.1), some (.str e.2), none] [.lst ((comeF l e).map .str)]) := by
  obtain ⟨x, y⟩ := e
  have m1 : member [.lst (l.map .str)] (.str x) (.ref 0) = some (decide (x ∈ l)) := mem_strs x rfl
  have m2 : member [.lst (l.map .str)] (.str y) (.ref 0) = some (decide (y ∈ l)) := mem_strs y rfl
  have hz : (l.map D.str).length < SZ := by rw [List.length_map]; exact hl
  have g0 : ([MO.lst (l.map D.str)] : Store)[0]? = some (.lst (l.map .str)) := rfl
  have pa : prim .append false [.ref 0, .str y] [.lst (l.map .str)] = some (.ok .non [.lst ((l ++ [y]).map .str)]) := by
    simp only [prim, g0, hz, if_true, updS, List.set_cons_zero]
    simp
  have ro : recvOk .append [.lst (l.map .str)] (.ref 0) = true := rfl
  unfold comeF
  by_cases q1 : x ∈ l
  · by_cases q2 : y ∈ l
    · simp only [turnF, asgT, eD, asQ, setAll, List.set_cons_zero, List.set_cons_succ, fn_law_2, execs, exec, evB, ev, List.getElem?_cons_zero, List.getElem?_cons_succ, bnd_ok, cmp_in, cmp_notIn, m1, m2, q1, q2, decide_true, Option.map_some, Bool.not_true, tru_bl, if_true, Bool.false_eq_true, if_false, bndS_ok, thn_nx, not_true, and_false]
    · simp only [turnF, asgT, eD, asQ, setAll, List.set_cons_zero, List.set_cons_succ, fn_law_2, execs, exec, evB, ev, evs, List.getElem?_cons_zero, List.getElem?_cons_succ, bnd_ok, cmp_in, cmp_notIn, m1, m2, q1, q2, decide_true, decide_false, Option.map_some, Bool.not_false, tru_bl, if_true, bndS_ok, ro, pa, thn_nx, not_false_eq_true, and_self]
  · simp only [turnF, asgT, eD, asQ, setAll, List.set_cons_zero, List.set_cons_succ, fn_law_2, execs, exec, evB, ev, List.getElem?_cons_zero, List.getElem?_cons_succ, bnd_ok, cmp_in, m1, q1, decide_false, tru_bl, Bool.false_eq_true, if_false, bndS_ok, thn_nx, false_and]
theorem come_pass {C : Cal} {a0 a1 a2 a3 a4 a5 a6 a7 a8 a9 a10 a12 : Option D} {names : List Tx} (hn : names.length < 100) : ∀ (es : List (Tx × Tx)) (l : List Tx) (o13 o14 : Option D), (∀ e ∈ es, e.2 ∈ names) → l.Nodup → (∀ x ∈ l, x ∈ names) →
    ∃ o13' o14', forL (turnF (.tup [13, 14]) (execs C fn_law_2)) (edD es) [a0, a1, a2, a3, a4, a5, a6, a7, a8, a9, a10, some (.ref 0), a12, o13, o14, none] [.lst (l.map .str)] = some (.nx [a0, a1, a2, a3, a4, a5, a6, a7, a8, a9, a10, some (.ref 0), a12, o13', o14', none] [.lst ((es.foldl comeF l).map .str)])
  | [], l, o13, o14, _, _, _ => ⟨o13, o14, rfl⟩
  | e :: r, l, o13, o14, he, nd, hl => by
    have z0 : (4000 : Nat) < SZ := by decide
    have ll := nodup_le nd hl
    obtain ⟨o13', o14', e1⟩ := come_pass (C := C) (a0 := a0) (a1 := a1) (a2 := a2) (a3 := a3) (a4 := a4) (a5 := a5) (a6 := a6) (a7 := a7) (a8 := a8) (a9 := a9) (a10 := a10) (a12 := a12) hn r (comeF l e) (some (.str e.1)) (some (.str e.2)) (fun e' h => he e' (by simp [h])) (come_nd [e] l nd) (fun x hx => by
      unfold comeF at hx
      split at hx
      · rcases List.mem_append.mp hx with hx | hx
        · exact hl x hx
        · simp only [List.mem_singleton] at hx
          subst hx
          exact he e (by simp)
      · exact hl x hx)
    refine ⟨o13', o14', ?_⟩
    rw [edD, List.map_cons, forL, come_turn (by omega), turnEnd_nx]
    exact e1
theorem plain_k21 (ns : List Int) (hl : ns.length ≤ 63) (hb : ∀ z ∈ ns, bits z ≤ 1048576) : ∃ U', run tab 12 "law" [.lst (ns.map .int)] [] = some (.ok (.bl true) U') := by
  obtain ⟨names, es, starts, goal, w, ew⟩ := w_web (Γ := tab) rfl rfl rfl rfl 8 [] ns 10 (by decide) (by decide)
  have wm := w.most
  have w2 := w.two
  have wf := w.few
  have ws := starts_len w
  obtain ⟨needs0, N, en⟩ := w_needs (Γ := tab) (names := names) rfl rfl rfl 9 [] ns (by omega) (by omega)
  have ew' : frz true [] (run tab 11 "_law_web" [.lst (ns.map .int), .int 10] []) = some (.ok (.tup [.lst (names.map .str), .lst (edD es), .lst (starts.map .str), .str goal]) []) := ew
  have en' : frz true [] (run tab 11 "_law_needs" [.lst (ns.map .int), .lst (names.map .str)] []) = some (.ok (.lst (needs0.map needD)) []) := en
  have z1 : (20000 : Nat) < SZ := by decide
  have nl : needs0.length = names.length := by
    have := N.perm.length_eq
    rwa [List.length_map] at this
  obtain ⟨needs, hneeds⟩ : ∃ l : List (Tx × Nat), l = needs0.map fun x => (x.1, 1) := ⟨_, rfl⟩
  have nn : needs.map (·.1) = needs0.map (·.1) := by rw [hneeds, List.map_map]; rfl
  have n1 : ∀ p n, (p, n) ∈ needs → n = 1 := fun p n h => by
    rw [hneeds] at h
    obtain ⟨x, _, e⟩ := List.mem_map.mp h
    cases e
    rfl
  have hall : ∀ x ∈ names, (x, 1) ∈ needs := fun x hx => by
    obtain ⟨y, hy, rfl⟩ := List.mem_map.mp (N.mem.mpr hx)
    rw [hneeds]
    exact List.mem_map.mpr ⟨y, hy, rfl⟩
  have GG0 := ggiven w N
  have sl : (seersL starts).length ≤ 11 := Nat.le_trans seersL_len ws
  have srt := seers_set (starts := starts) (U := []) (by omega)
  have snd := seersL_nd (starts := starts)
  have l1 : ∀ (xs : List D) U, prim .list1 false [.lst xs] U = some (.ok (.lst xs) U) := fun xs U => rfl
  generalize hse : seersL starts = seers at *
  have GG : GGiven names seers es needs := ⟨GG0.g, GG0.fe, by rw [nn]; exact GG0.keys, fun x hx => N.mem.mp (by rw [← nn]; exact List.mem_map.mpr ⟨x, hx, rfl⟩), fun x hx => by rw [n1 x.1 x.2 hx]; decide, fun s h => by rw [nn]; exact GG0.seer s h⟩
  obtain ⟨rows, cuts, G, rn, eg⟩ := r_ground hasGround GG 6 [] (de := .lst (edD es)) (dn := .lst (needs.map needD)) rfl rfl
  have eg' : frz true [] (run tab 11 "ground_by" [.lst (edD es), .lst (seers.map .str), .lst (needs.map needD)] []) = some (.ok (.tup [.lst (rows.map rowD), .lst (cuts.map cutD)]) []) := eg
  have rl : rows.length ≤ 10 := by
    have := nodup_le G.rws.nd rn
    rw [List.length_map] at this
    omega
  have smn : ∀ x ∈ names, Small x := w.nm.sml
  -- the people of the ground go on along the edges
  have clo : ∀ e ∈ es, e.1 ∈ rows.map (·.1) → e.2 ∈ rows.map (·.1) := fun e he h1 => by
    refine Classical.byContradiction fun h2 => ?_
    obtain ⟨cut, c1, c2⟩ := G.blocked GG.keys (hall e.2 (w.edge e he).2) h2
    have : cut = [] := List.length_eq_zero_iff.mp (by omega)
    subst this
    exact c2 ⟨e.1, G.rws.reach (fun p n h => Nat.le_of_eq (n1 p n h).symm) h2 (fun x hx => hx) e.1 h1, mem_within.mpr ⟨he, h1, .inr rfl⟩⟩
  have cutE : cuts = ((needs.map (·.1)).filter fun x => decide (x ∉ rows.map (·.1))).map fun x => (x, []) := by
    rw [← G.cutN, List.map_map]
    have : ∀ c ∈ cuts, c = ((fun x => (x, [])) ∘ fun x : Tx × List Tx => x.1) c := fun c hc => by
      obtain ⟨n, cs, q1, q2, q3, _⟩ := G.cut c hc
      have q4 := n1 _ _ q1
      have q5 := q2.size
      have : c.2 = [] := List.length_eq_zero_iff.mp (by omega)
      obtain ⟨a, b⟩ := c
      simp only at this
      subst this
      rfl
    exact (List.map_id cuts).symm.trans (List.map_congr_left this)
  let R : Option D → Option D → Option D → Option D → Option D → Option D → Rho := fun o9 o10 o11 o12 o13 o14 => [some (.lst (ns.map .int)), some (.lst (names.map .str)), some (.lst (edD es)), some (.lst (starts.map .str)), some (.str goal), some (.lst (seers.map .str)), some (.lst (needs.map needD)), none, none, o9, o10, o11, o12, o13, o14, none]
  let gr : D := .lst (rows.map rowD)
  let cr : D := .lst (cuts.map cutD)
  have x1 : exec (run tab 11) (.asg (.tup [1, 2, 3, 4]) (.call true "_law_web" (.cons (.var 0) (.cons (.cst (.int 10)) .nil)))) [some (.lst (ns.map .int)), none, none, none, none, none, none, none, none, none, none, none, none, none, none, none] [] = some (.nx [some (.lst (ns.map .int)), some (.lst (names.map .str)), some (.lst (edD es)), some (.lst (starts.map .str)), some (.str goal), none, none, none, none, none, none, none, none, none, none, none] []) := by
    simp only [exec, ev, evs, List.getElem?_cons_zero, bnd_ok, ew', bndS_ok, asgT, asQ, setAll, List.set_cons_zero, List.set_cons_succ]
  have x2 : exec (run tab 11) (.asg (.var 5) (.prim .sortedSet false (.cons (.var 3) .nil))) [some (.lst (ns.map .int)), some (.lst (names.map .str)), some (.lst (edD es)), some (.lst (starts.map .str)), some (.str goal), none, none, none, none, none, none, none, none, none, none, none] [] = some (.nx [some (.lst (ns.map .int)), some (.lst (names.map .str)), some (.lst (edD es)), some (.lst (starts.map .str)), some (.str goal), some (.lst (seers.map .str)), none, none, none, none, none, none, none, none, none, none] []) := by
    simp only [exec, ev, evs, List.getElem?_cons_zero, List.getElem?_cons_succ, bnd_ok, recvOk, if_true, srt, bndS_ok, asgT, List.set_cons_zero, List.set_cons_succ]
  have t3 : ∀ x ∈ needs0, turnL (.tup [7, 8]) (evB (run tab 11) yes) (ev (run tab 11) fn_law_1) (wipe [some (.lst (ns.map .int)), some (.lst (names.map .str)), some (.lst (edD es)), some (.lst (starts.map .str)), some (.str goal), some (.lst (seers.map .str)), none, none, none, none, none, none, none, none, none, none] [7, 8]) (needD x) [] = some (.ok (some (needD (x.1, 1))) []) := by
    rintro ⟨p, n⟩ _
    have a0 : asgT [] (.tup [7, 8]) (needD (p, n)) (wipe [some (.lst (ns.map .int)), some (.lst (names.map .str)), some (.lst (edD es)), some (.lst (starts.map .str)), some (.str goal), some (.lst (seers.map .str)), none, none, none, none, none, none, none, none, none, none] [7, 8]) = some [some (.lst (ns.map .int)), some (.lst (names.map .str)), some (.lst (edD es)), some (.lst (starts.map .str)), some (.str goal), some (.lst (seers.map .str)), none, some (.str p), some (.int n), none, none, none, none, none, none, none] := rfl
    unfold turnL
    rw [a0]
    simp only [evB_yes, bnd_ok, if_true, fn_law_1, ev, evs, List.getElem?_cons_zero, List.getElem?_cons_succ, ret_eq, noEx_ok, needD]
    rfl
  have e3 := lcL_maps needD (fun x => needD (x.1, 1)) needs0 t3
  have m3 : needs0.map (fun x => needD (x.1, 1)) = needs.map needD := by rw [hneeds, List.map_map]; rfl
  rw [m3] at e3
  have x3 : exec (run tab 11) (.asg (.var 6) (.lc false [7, 8] (.tup [7, 8]) (.seq (.call true "_law_needs" (.cons (.var 0) (.cons (.var 1) .nil)))) yes fn_law_1)) [some (.lst (ns.map .int)), some (.lst (names.map .str)), some (.lst (edD es)), some (.lst (starts.map .str)), some (.str goal), some (.lst (seers.map .str)), none, none, none, none, none, none, none, none, none, none] [] = some (.nx (R none none none none none none) []) := by
    have nz : ¬ SZ < (fixS (needs0.map needD)).get.length := by
      rw [fixS_len, List.length_map]
      omega
    simp only [R, exec, ev, evs, evIt, List.getElem?_cons_zero, List.getElem?_cons_succ, bnd_ok, en', srcOf, if_neg nz, lcGo_fix, e3, fixS_fin, if_true, mkL, Bool.false_eq_true, if_false, bndS_ok, asgT, List.set_cons_zero, List.set_cons_succ]
  have x4 : exec (run tab 11) (.asg (.tup [9, 10]) (.call true "ground_by" (.cons (.prim .list1 false (.cons (.var 2) .nil)) (.cons (.prim .list1 false (.cons (.var 5) .nil)) (.cons (.prim .list1 false (.cons (.var 6) .nil)) .nil))))) (R none none none none none none) [] = some (.nx (R (some gr) (some cr) none none none none) []) := by
    simp only [R, gr, cr, exec, ev, evs, List.getElem?_cons_zero, List.getElem?_cons_succ, bnd_ok, recvOk, if_true, l1, eg', bndS_ok, asgT, asQ, setAll, List.set_cons_zero, List.set_cons_succ]
  have x5 : exec (run tab 11) (.asg (.var 11) (.prim .list1 true (.cons (.var 5) .nil))) (R (some gr) (some cr) none none none none) [] = some (.nx (R (some gr) (some cr) (some (.ref 0)) none none none) [.lst (seers.map .str)]) := by
    have lt : prim .list1 true [.lst (seers.map .str)] [] = some (.ok (.ref 0) [.lst (seers.map .str)]) := rfl
    simp only [R, exec, ev, evs, List.getElem?_cons_zero, List.getElem?_cons_succ, bnd_ok, recvOk, if_true, lt, bndS_ok, asgT, List.set_cons_zero, List.set_cons_succ]
  have c0 : Came21 es seers (rows.map (·.1)) 0 seers := ⟨snd, G.seer, fun x hx => hx, by
    cases seers with
    | nil => exact .inl fun e he h => by cases h
    | cons x r => exact .inr (by simp)⟩
  obtain ⟨o12, o13, o14, come, x6, cc⟩ : ∃ o12 o13 o14 come, exec (run tab 11) (.forS (.var 12) (.range1 (.cst (.int 10))) fn_law_3) (R (some gr) (some cr) (some (.ref 0)) none none none) [.lst (seers.map .str)] = some (.nx (R (some gr) (some cr) (some (.ref 0)) o12 o13 o14) [.lst (come.map .str)]) ∧ Came21 es seers (rows.map (·.1)) 10 come := by
    obtain ⟨ρ', U', e, o12, o13, o14, come, hρ, hU, cc⟩ := forL_ty (turn := turnF (.var 12) (execs (run tab 11) fn_law_3)) (fun (j : Nat) => D.int j) (List.range 10) (fun dn ρ U => ∃ o12 o13 o14 come, ρ = R (some gr) (some cr) (some (.ref 0)) o12 o13 o14 ∧ U = [.lst (come.map .str)] ∧ Came21 es seers (rows.map (·.1)) dn.length come)
      (fun dn x r ρ U e ⟨o12, o13, o14, come, hρ, hU, cc⟩ => by
        subst hρ hU
        obtain ⟨o13', o14', e1⟩ := come_pass (C := run tab 11) (a0 := some (.lst (ns.map .int))) (a1 := some (.lst (names.map .str))) (a2 := some (.lst (edD es))) (a3 := some (.lst (starts.map .str))) (a4 := some (.str goal)) (a5 := some (.lst (seers.map .str))) (a6 := some (.lst (needs.map needD))) (a7 := none) (a8 := none) (a9 := some gr) (a10 := some cr) (a12 := some (.int (x : Nat))) (names := names) (by omega) es come o13 o14 (fun e he => (w.edge e he).2) cc.nd (fun x hx => rn x (cc.inH x hx))
        refine ⟨R (some gr) (some cr) (some (.ref 0)) (some (.int (x : Nat))) o13' o14', _, ?_, some (.int (x : Nat)), o13', o14', es.foldl comeF come, rfl, rfl, ?_⟩
        · simp only [turnF, asgT, R, List.set_cons_zero, List.set_cons_succ, fn_law_3, execs, exec, evIt, ev, List.getElem?_cons_zero, List.getElem?_cons_succ, bnd_ok, srcOf, bndS_ok, forGo_fix, e1, thn_nx]
        · rw [List.length_append, List.length_singleton]
          exact cc.next clo)
      (List.range 10) [] (R (some gr) (some cr) (some (.ref 0)) none none none) [.lst (seers.map .str)] rfl ⟨none, none, none, seers, rfl, rfl, c0⟩
    subst hρ hU
    rw [List.length_range] at cc
    refine ⟨o12, o13, o14, come, ?_, cc⟩
    have sm : small 10 = true := by decide
    have rg : rangeL 0 10 = (List.range 10).map fun (j : Nat) => D.int j := rangeL_nat 10
    simp only [exec, evIt, ev, bnd_ok, sm, if_true, rg, bndS_ok, forGo_fix, e]
  have cc2 : ∀ e ∈ es, e.1 ∈ come → e.2 ∈ come := by
    refine cc.more.resolve_right fun h => ?_
    have := nodup_le cc.nd fun x hx => rn x (cc.inH x hx)
    omega
  have same : ∀ x, x ∈ rows.map (·.1) ↔ x ∈ come := fun x => ⟨rows_in G.rws (fun p n h => Nat.le_of_eq (n1 p n h).symm) cc.se cc2 x, cc.inH x⟩
  have smr : ∀ x ∈ rows.map (·.1), Small x := fun x hx => smn x (rn x hx)
  have smc : ∀ x ∈ come, Small x := fun x hx => smr x (cc.inH x hx)
  have hsame : (rows.map (·.1)).mergeSort leS = come.mergeSort leS := sort_same (perm_of G.rws.nd cc.nd same)
  have cutE2 : cuts = ((needs.map (·.1)).filter fun x => decide (x ∉ come)).map fun x => (x, []) := by
    rw [cutE]
    congr 1
    exact List.filter_congr fun x _ => by rw [decide_eq_decide, same]
  have cl : come.length ≤ 10 := by
    have := nodup_le cc.nd fun x hx => rn x (cc.inH x hx)
    omega
  clear cutE c0 cc cc2
  obtain ⟨U1, hU1⟩ : ∃ U : Store, U = [.lst (come.map .str)] := ⟨_, rfl⟩
  rw [← hU1] at x6
  have aU : asL U1 (.ref 0) = some (come.map .str) := by rw [hU1]; rfl
  obtain ⟨RF, hRF⟩ : ∃ ρ, ρ = R (some gr) (some cr) (some (.ref 0)) o12 o13 o14 := ⟨_, rfl⟩
  have rfl_len : RF.length = 16 := by rw [hRF]; rfl
  have q9 : RF[9]? = some (some gr) := by rw [hRF]; rfl
  have q10 : RF[10]? = some (some cr) := by rw [hRF]; rfl
  have q11 : RF[11]? = some (some (.ref 0)) := by rw [hRF]; rfl
  have q6 : RF[6]? = some (some (.lst (needs.map needD))) := by rw [hRF]; rfl
  have f7 := lc_fst (C := run tab 11) (ρ := RF) (U := U1) (i := 15) (e := .var 9) (xs := rows) rowD (·.1) (fun x => row_idx x) (by omega) (by simp only [ev, q9, gr]) (by omega)
  have f7' : ev (run tab 11) (.lc false [15] (.var 15) (.seq (.var 9)) yes fn_law_4) RF U1 = some (.ok (.lst ((rows.map (·.1)).map .str)) U1) := f7
  have so1 := sorted_strs (U := U1) smr
  have so2 : prim .sorted1 false [.ref 0] U1 = some (.ok (.lst ((come.mergeSort leS).map .str)) U1) := by
    have pls : plainL (come.map D.str) 39 = true := plainL_strs smc
    have snl : snapL U1 (come.map D.str) = some (come.map D.str) := snapL_closed (closed_strs _)
    simp only [prim, aU, snl, pls, if_true, sort_strs, mkL, Bool.false_eq_true, if_false]
  have x7 : exec (run tab 11) (.ifS (.cmp .ne (.prim .sorted1 false (.cons (.lc false [15] (.var 15) (.seq (.var 9)) yes fn_law_4) .nil)) (.prim .sorted1 false (.cons (.var 11) .nil))) (.cons (.ret (.cst (.bl false))) .nil) .nil) RF U1 = some (.nx RF U1) := by
    have ne1 := ne_strs (U := U1) (l := come.mergeSort leS) fun x hx => smc x ((List.mergeSort_perm _ _).mem_iff.mp hx)
    simp only [exec, evB, ev, evs, f7', bnd_ok, recvOk, if_true, so1, hsame, q11, so2, ne1, tru_bl, bndS_ok, Bool.false_eq_true, if_false, execs]
  have t8 : ∀ x ∈ needs, turnL (.tup [7, 8]) (evB (run tab 11) fn_law_5) (ev (run tab 11) fn_law_6) (wipe RF [7, 8]) (needD x) U1 = some (.ok (if decide (x.1 ∉ come) then some (cutD (x.1, [])) else none) U1) := by
    rintro ⟨p, n⟩ _
    have a0 : asgT U1 (.tup [7, 8]) (needD (p, n)) (wipe RF [7, 8]) = some (((wipe RF [7, 8]).set 7 (some (.str p))).set 8 (some (.int n))) := rfl
    have g1 : (((wipe RF [7, 8]).set 7 (some (.str p))).set 8 (some (.int n)))[7]? = some (some (.str p)) := by
      rw [get_set_ne (by decide)]
      exact get_set_eq (by simp [wipe, rfl_len])
    have g2 : (((wipe RF [7, 8]).set 7 (some (.str p))).set 8 (some (.int n)))[11]? = some (some (.ref 0)) := by
      rw [get_set_ne (by decide), get_set_ne (by decide)]
      simp only [wipe]
      rw [get_set_ne (by decide), get_set_ne (by decide)]
      exact q11
    have hm : member U1 (.str p) (.ref 0) = some (decide (p ∈ come)) := mem_strs p aU
    unfold turnL
    rw [a0]
    simp only [fn_law_5, fn_law_6, evB, ev, evs, g1, g2, bnd_ok, cmp_notIn, hm, Option.map_some, tru_bl]
    by_cases q : p ∈ come
    · simp only [q, decide_true, Bool.not_true, Bool.false_eq_true, if_false, not_true, decide_false, ret_eq, noEx_ok]
    · simp only [q, decide_false, Bool.not_false, if_true, not_false_eq_true, decide_true, mkL, Bool.false_eq_true, if_false, bnd_ok, ret_eq, noEx_ok, cutD, List.map_nil]
  have e8 := lcL_fm needD (fun x => if decide (x.1 ∉ come) then some (cutD (x.1, [])) else none) needs t8
  have mm : ∀ l : List (Tx × Nat), l.filterMap (fun x => if decide (x.1 ∉ come) then some (cutD (x.1, [])) else none) = (((l.map (·.1)).filter fun x => decide (x ∉ come)).map fun x => ((x, []) : Tx × List Tx)).map cutD := fun l => by
    induction l with
    | nil => rfl
    | cons x r ih =>
      rw [List.filterMap_cons, List.map_cons, List.filter_cons]
      by_cases q : x.1 ∈ come
      · simp only [q, not_true, decide_false, Bool.false_eq_true, if_false, ih]
      · simp only [q, not_false_eq_true, decide_true, if_true, ih, List.map_cons]
  rw [mm, ← cutE2] at e8
  have nl2 : needs.length = names.length := by rw [hneeds, List.length_map, nl]
  have x8 : exec (run tab 11) (.ret (.cmp .eq (.var 10) (.lc false [7, 8] (.tup [7, 8]) (.seq (.var 6)) fn_law_5 fn_law_6))) RF U1 = some (.rt (.bl true) U1) := by
    have nz : ¬ SZ < (fixS (needs.map needD)).get.length := by
      rw [fixS_len, List.length_map]
      omega
    have pl : plain (.lst (cuts.map cutD)) 40 = true := by
      have key : ∀ l : List Tx, (∀ x ∈ l, x ∈ names) → plainL ((l.map fun x => ((x, []) : Tx × List Tx)).map cutD) 39 = true := fun l => by
        induction l with
        | nil => intro _; rfl
        | cons x r ih =>
          intro hx
          simp only [List.map_cons, plainL, Bool.and_eq_true]
          refine ⟨?_, ih fun y hy => hx y (by simp [hy])⟩
          have := plain_str (n := 38) (smn x (hx x (by simp)))
          simp only [cutD, plain, plainL, List.map_nil, Bool.and_true] at this ⊢
          exact this
      show plainL (cuts.map cutD) 39 = true
      rw [cutE2]
      exact key _ fun x hx => N.mem.mp (by
        rw [← nn]
        exact (List.mem_filter.mp hx).1)
    have sn : snap U1 (.lst (cuts.map cutD)) = some (.lst (cuts.map cutD)) := snap_closed (by simp only [closed, closed_cutD])
    have ee : cmpop .eq U1 (.lst (cuts.map cutD)) (.lst (cuts.map cutD)) = some true := by
      show eqv U1 _ _ = _
      unfold eqv
      simp only [scalS, Bool.false_eq_true, if_false, sn, pl, Bool.and_self, if_true, pyeq_refl _ 40 pl]
    simp only [exec, ev, evIt, q10, q6, cr, bnd_ok, srcOf, if_neg nz, lcGo_fix, e8, fixS_fin, if_true, mkL, Bool.false_eq_true, if_false, ee, bndS_ok]
  refine ⟨U1, ?_⟩
  rw [run_at tab_law rfl]
  simp only [fn_law, startR, List.map_cons, List.map_nil, List.replicate, List.cons_append, List.nil_append, Nat.reduceSub]
  rw [execs, x1, thn_nx, execs, x2, thn_nx, execs, x3, thn_nx, execs, x4, thn_nx, execs, x5, thn_nx, execs, x6, thn_nx, ← hRF, execs, x7, thn_nx, execs, x8, thn_rt, fin_rt]
end VI

/-! VIb1: data of VIa and the hand layer's values: RepV (a datum behind a value, over the frozen part Z of the heap and the places β of the store), Rel (the store), how they grow. -/
namespace VI
open PySem PySem.Spec PyProof.Rows L2

theorem SZ_eq : SZ = sizeLine := by rw [sizeLine_eq]; rfl

/-! ### keys -/
def keyD : D → Option Key
  | .int i => some (.inl i)
  | .str x => some (.inr ⟨x.toArray⟩)
  | _ => none
def keysD : List D → Option (List Key)
  | [] => some []
  | x :: r => (match keyD x, keysD r with | some k, some s => some (k :: s) | _, _ => none)
theorem keyD_inj {a b : D} {k : Key} (h : keyD a = some k) (h' : keyD b = some k) : a = b := by
  cases a <;> cases b <;> simp_all [keyD]
  · subst h; simpa using h'.symm
  · subst h; simp at h'
  · subst h; simp at h'
  · subst h; simpa using h'.symm
theorem keysD_inj : ∀ {a b : List D} {k : List Key}, keysD a = some k → keysD b = some k → a = b
  | [], [], _, _, _ => rfl
  | [], y :: s, k, h, h' => by
    simp only [keysD, Option.some.injEq] at h
    subst h
    simp only [keysD] at h'
    split at h' <;> simp at h'
  | x :: r, [], k, h, h' => by
    simp only [keysD, Option.some.injEq] at h'
    subst h'
    simp only [keysD] at h
    split at h <;> simp at h
  | x :: r, y :: s, k, h, h' => by
    simp only [keysD] at h h'
    split at h <;> simp only [Option.some.injEq, reduceCtorEq] at h
    rename_i k1 s1 e1 e2
    subst h
    split at h' <;> simp only [Option.some.injEq, reduceCtorEq] at h'
    rename_i k2 s2 e3 e4
    injection h' with h1 h2
    subst h1 h2
    rw [keyD_inj e1 e3, keysD_inj e2 e4]
theorem keyD_of_flat {d : D} (h : flatK d = true) : ∃ k, keyD d = some k := by
  cases d <;> simp [flatK] at h
  · exact ⟨_, rfl⟩
  · exact ⟨_, rfl⟩
theorem flat_of_keyD {d : D} {k : Key} (h : keyD d = some k) : flatK d = true := by
  cases d <;> simp [keyD] at h <;> rfl
theorem keysD_of_flat : ∀ {ds : List D}, ds.all flatK = true → ∃ ks, keysD ds = some ks
  | [], _ => ⟨[], rfl⟩
  | x :: r, h => by
    simp only [List.all_cons, Bool.and_eq_true] at h
    obtain ⟨k, e⟩ := keyD_of_flat h.1
    obtain ⟨ks, e'⟩ := keysD_of_flat h.2
    exact ⟨k :: ks, by simp [keysD, e, e']⟩
theorem flat_of_keysD : ∀ {ds : List D} {ks : List Key}, keysD ds = some ks → ds.all flatK = true
  | [], _, _ => rfl
  | x :: r, ks, h => by
    simp only [keysD] at h
    split at h <;> simp only [Option.some.injEq, reduceCtorEq] at h
    rename_i k s e1 e2
    simp [flat_of_keyD e1, flat_of_keysD e2]

/-! ### keys that are tuples -/
mutual
def nk : D → NestedKey
  | .int i => .num i
  | .str x => .text ⟨x.toArray⟩
  | .tup xs => .tup (nkL xs)
  | _ => .none
def nkL : List D → List NestedKey
  | [] => []
  | x :: r => nk x :: nkL r
end
theorem nk_flat_inj {a b : D} (h : flatK a = true) (h' : flatK b = true) (e : nk a = nk b) : a = b := by
  cases a <;> simp [flatK] at h <;> cases b <;> simp [flatK] at h' <;> simp_all [nk]
theorem nkL_flat_inj : ∀ {a b : List D}, a.all flatK = true → b.all flatK = true → nkL a = nkL b → a = b
  | [], [], _, _, _ => rfl
  | [], _ :: _, _, _, e => by simp [nkL] at e
  | _ :: _, [], _, _, e => by simp [nkL] at e
  | x :: r, y :: s, h, h', e => by
    simp only [List.all_cons, Bool.and_eq_true] at h h'
    simp only [nkL, List.cons.injEq] at e
    rw [nk_flat_inj h.1 h'.1 e.1, nkL_flat_inj h.2 h'.2 e.2]
theorem nk_tup_inj {a b : D} (h : tupK a = true) (h' : tupK b = true) (e : nk a = nk b) : a = b := by
  cases a <;> simp only [tupK, Bool.false_eq_true] at h
  cases b <;> simp only [tupK, Bool.false_eq_true] at h'
  simp only [nk, NestedKey.tup.injEq] at e
  rw [nkL_flat_inj h h' e]
theorem pairK_shape {a : D} (h : pairK a = true) : ∃ x y, a = .tup [x, y] ∧ tupK x = true ∧ tupK y = true := by
  unfold pairK at h
  split at h
  · simp only [Bool.and_eq_true] at h
    exact ⟨_, _, rfl, h.1, h.2⟩
  · cases h
theorem tupK_shape {a : D} (h : tupK a = true) : ∃ xs, a = .tup xs ∧ xs.all flatK = true := by
  cases a <;> simp only [tupK, Bool.false_eq_true] at h
  exact ⟨_, rfl, h⟩
theorem nk_inj {a b : D} (h : keyFor 1 a = true) (h' : keyFor 1 b = true) (e : nk a = nk b) : a = b := by
  simp only [keyFor, Bool.or_eq_true] at h h'
  rcases h with h | h <;> rcases h' with h' | h'
  · exact nk_tup_inj h h' e
  · exfalso
    obtain ⟨xs, rfl, hf⟩ := tupK_shape h
    obtain ⟨y1, y2, rfl, h1, h2⟩ := pairK_shape h'
    obtain ⟨zs, rfl, h1⟩ := tupK_shape h1
    simp only [nk, nkL, NestedKey.tup.injEq] at e
    cases xs with
    | nil => simp [nkL] at e
    | cons x r =>
      rw [List.all_cons, Bool.and_eq_true] at hf
      simp only [nkL, List.cons.injEq] at e
      have hf := hf.1
      have e := e.1
      cases x <;> simp [flatK] at hf <;> simp [nk] at e
  · exfalso
    obtain ⟨xs, rfl, hf⟩ := tupK_shape h'
    obtain ⟨y1, y2, rfl, h1, h2⟩ := pairK_shape h
    obtain ⟨zs, rfl, h1⟩ := tupK_shape h1
    simp only [nk, nkL, NestedKey.tup.injEq] at e
    cases xs with
    | nil => simp [nkL] at e
    | cons x r =>
      rw [List.all_cons, Bool.and_eq_true] at hf
      simp only [nkL, List.cons.injEq] at e
      have hf := hf.1
      have e := e.1
      cases x <;> simp [flatK] at hf <;> simp [nk] at e
  · obtain ⟨x1, x2, rfl, h1, h2⟩ := pairK_shape h
    obtain ⟨y1, y2, rfl, g1, g2⟩ := pairK_shape h'
    simp only [nk, nkL, NestedKey.tup.injEq, List.cons.injEq] at e
    rw [nk_tup_inj h1 g1 e.1, nk_tup_inj h2 g2 e.2.1]
theorem flat_depth {a : D} (h : flatK a = true) : (nk a).depth = 0 := by
  cases a <;> simp [flatK] at h <;> simp [nk, NestedKey.depth]
theorem flatL_depth : ∀ {a : List D}, a.all flatK = true → NestedKey.depthAll (nkL a) = 0
  | [], _ => by simp [nkL, NestedKey.depthAll]
  | x :: r, h => by
    simp only [List.all_cons, Bool.and_eq_true] at h
    simp only [nkL, NestedKey.depthAll, flat_depth h.1, flatL_depth h.2]
    omega
theorem tupK_depth {a : D} (h : tupK a = true) : (nk a).depth ≤ 1 := by
  obtain ⟨xs, rfl, h⟩ := tupK_shape h
  simp only [nk, NestedKey.depth, flatL_depth h]
  omega
theorem key1_depth {a : D} (h : keyFor 1 a = true) : (nk a).depth ≤ 8 := by
  simp only [keyFor, Bool.or_eq_true] at h
  rcases h with h | h
  · have := tupK_depth h
    omega
  · obtain ⟨x, y, rfl, h1, h2⟩ := pairK_shape h
    have := tupK_depth h1
    have := tupK_depth h2
    simp only [nk, nkL, NestedKey.depth, NestedKey.depthAll]
    omega
/-- at a stands a dict with these entries: keys that are tuples -/
def dN (P : Program) (w : World) (a : Addr) (xs : List (NestedKey × Addr × Value)) : HO :=
  .ext fun h => (a == sysModules) = false ∧ xs.length ≤ sizeLine ∧ ∃ o es ep, h.get? a = some o ∧ o.ExactDict ∧ o.data = .dict es ep ∧ es.toList = xs.map (entryOfKey (nestedKind P w))

/-! ### a datum behind a value -/
section
variable (P : Program) (w : World) (K : PySem.W.Frag) (Z : Hp) (β : List Addr)
mutual
def RepV : D → V → Prop
  | .non, v => v = .non
  | .bl b, v => v = .bl b
  | .int i, v => v = .int i
  | .str x, v => v = .str ⟨x.toArray⟩
  | .tup xs, v => ∃ a vs, v = .ref a ∧ SqT K Z a vs ∧ RepL xs vs
  | .lst xs, v => ∃ a vs, v = .ref a ∧ SqL K Z a vs ∧ RepL xs vs
  | .dct t kvs, v => ∃ a, v = .ref a ∧ ((t = 0 ∧ ∃ l, Z a = some (.dK l) ∧ RepK kvs l) ∨ (t = 1 ∧ ∃ l, Rd Z a (dN P w a l) ∧ (l.map (·.1)).Nodup ∧ RepT kvs l))
  | .ref n, v => ∃ a, v = .ref a ∧ β[n]? = some a
  | .exn _ _, _ => False
def RepL : List D → List V → Prop
  | [], vs => vs = []
  | x :: r, vs => ∃ v s, vs = v :: s ∧ RepV x v ∧ RepL r s
def RepK : List (D × D) → List (Key × V) → Prop
  | [], l => l = []
  | (k, x) :: r, l => ∃ kk v s, l = (kk, v) :: s ∧ keyD k = some kk ∧ RepV x v ∧ RepK r s
def RepT : List (D × D) → List (NestedKey × Addr × Value) → Prop
  | [], l => l = []
  | (k, x) :: r, l => ∃ b u v s, l = (nk k, b, u) :: s ∧ keyFor 1 k = true ∧ RepV k (.ref b) ∧ RelV v u ∧ RepV x v ∧ RepT r s
end
end
/-- Z' has all of Z -/
def ZLe (Z Z' : Hp) : Prop := ∀ a o, Z a = some o → Z' a = some o
theorem ZLe.refl (Z : Hp) : ZLe Z Z := fun _ _ h => h
theorem ZLe.trans {Z Z' Z'' : Hp} (h : ZLe Z Z') (h' : ZLe Z' Z'') : ZLe Z Z'' := fun a o e => h' a o (h a o e)
theorem Rd.le {Z Z' : Hp} {a : Addr} {u : HO} (z : ZLe Z Z') (h : Rd Z a u) : Rd Z' a u := by
  rcases h with h | ⟨o, h⟩
  · exact .inl (z _ _ h)
  · exact .inr ⟨o, z _ _ h⟩
theorem SqL.le {K : PySem.W.Frag} {Z Z' : Hp} {a : Addr} {xs : List V} (z : ZLe Z Z') (h : SqL K Z a xs) : SqL K Z' a xs := by
  rcases h with h | h
  · exact .inl (Rd.le z h)
  · exact .inr h
theorem SqT.le {K : PySem.W.Frag} {Z Z' : Hp} {a : Addr} {xs : List V} (z : ZLe Z Z') (h : SqT K Z a xs) : SqT K Z' a xs := by
  rcases h with h | h
  · exact .inl (Rd.le z h)
  · exact .inr h
def BLe (β β' : List Addr) : Prop := ∃ γ, β' = β ++ γ
theorem BLe.refl (β : List Addr) : BLe β β := ⟨[], by simp⟩
theorem BLe.trans {β β' β'' : List Addr} (h : BLe β β') (h' : BLe β' β'') : BLe β β'' := by
  obtain ⟨γ, rfl⟩ := h
  obtain ⟨δ, rfl⟩ := h'
  exact ⟨γ ++ δ, by simp⟩
theorem BLe.get {β β' : List Addr} (h : BLe β β') {n : Nat} {a : Addr} (e : β[n]? = some a) : β'[n]? = some a := by
  obtain ⟨γ, rfl⟩ := h
  obtain ⟨hn, e'⟩ := List.getElem?_eq_some_iff.mp e
  rw [List.getElem?_append_left hn, e]
section
variable {P : Program} {w : World} {K : PySem.W.Frag} {Z Z' : Hp} {β β' : List Addr}
mutual
theorem RepV.mono (z : ZLe Z Z') (b : BLe β β') : ∀ {d : D} {v : V}, RepV P w K Z β d v → RepV P w K Z' β' d v
  | .non, v, h => by simpa only [RepV] using h
  | .bl _, v, h => by simpa only [RepV] using h
  | .int _, v, h => by simpa only [RepV] using h
  | .str _, v, h => by simpa only [RepV] using h
  | .tup xs, v, h => by
    simp only [RepV] at h ⊢
    obtain ⟨a, vs, e, s, r⟩ := h
    exact ⟨a, vs, e, SqT.le z s, RepL.mono z b r⟩
  | .lst xs, v, h => by
    simp only [RepV] at h ⊢
    obtain ⟨a, vs, e, s, r⟩ := h
    exact ⟨a, vs, e, SqL.le z s, RepL.mono z b r⟩
  | .dct t kvs, v, h => by
    simp only [RepV] at h ⊢
    obtain ⟨a, e, h⟩ := h
    refine ⟨a, e, ?_⟩
    rcases h with ⟨hn, l, h1, h2⟩ | ⟨hn, l, h1, h0, h2⟩
    · exact .inl ⟨hn, l, z _ _ h1, RepK.mono z b h2⟩
    · exact .inr ⟨hn, l, Rd.le z h1, h0, RepT.mono z b h2⟩
  | .ref n, v, h => by
    simp only [RepV] at h ⊢
    obtain ⟨a, e, h⟩ := h
    exact ⟨a, e, b.get h⟩
  | .exn _ _, v, h => by simp only [RepV] at h
theorem RepL.mono (z : ZLe Z Z') (b : BLe β β') : ∀ {ds : List D} {vs : List V}, RepL P w K Z β ds vs → RepL P w K Z' β' ds vs
  | [], vs, h => by simpa only [RepL] using h
  | x :: r, vs, h => by
    simp only [RepL] at h ⊢
    obtain ⟨v, s, e, h1, h2⟩ := h
    exact ⟨v, s, e, RepV.mono z b h1, RepL.mono z b h2⟩
theorem RepK.mono (z : ZLe Z Z') (b : BLe β β') : ∀ {ds : List (D × D)} {vs : List (Key × V)}, RepK P w K Z β ds vs → RepK P w K Z' β' ds vs
  | [], vs, h => by simpa only [RepK] using h
  | (k, x) :: r, vs, h => by
    simp only [RepK] at h ⊢
    obtain ⟨kk, v, s, e, h0, h1, h2⟩ := h
    exact ⟨kk, v, s, e, h0, RepV.mono z b h1, RepK.mono z b h2⟩
theorem RepT.mono (z : ZLe Z Z') (b : BLe β β') : ∀ {ds : List (D × D)} {vs : List (NestedKey × Addr × Value)}, RepT P w K Z β ds vs → RepT P w K Z' β' ds vs
  | [], vs, h => by simpa only [RepT] using h
  | (k, x) :: r, vs, h => by
    simp only [RepT] at h ⊢
    obtain ⟨c, u, v, s, e, h0, hk, hr, h1, h2⟩ := h
    exact ⟨c, u, v, s, e, h0, RepV.mono z b hk, hr, RepV.mono z b h1, RepT.mono z b h2⟩
end
theorem RepL.nil : RepL P w K Z β [] [] := by simp only [RepL]
theorem RepL.cons {x : D} {v : V} {r : List D} {s : List V} (h : RepV P w K Z β x v) (h' : RepL P w K Z β r s) : RepL P w K Z β (x :: r) (v :: s) := by
  simp only [RepL]
  exact ⟨v, s, rfl, h, h'⟩
theorem RepL.length : ∀ {ds : List D} {vs : List V}, RepL P w K Z β ds vs → ds.length = vs.length
  | [], vs, h => by
    simp only [RepL] at h
    subst h
    rfl
  | x :: r, vs, h => by
    simp only [RepL] at h
    obtain ⟨v, s, rfl, _, h2⟩ := h
    simp [RepL.length h2]
theorem RepL.get : ∀ {ds : List D} {vs : List V} {i : Nat} {d : D}, RepL P w K Z β ds vs → ds[i]? = some d → ∃ v, vs[i]? = some v ∧ RepV P w K Z β d v
  | [], _, _, _, _, h => by simp at h
  | x :: r, vs, 0, d, h, e => by
    simp only [RepL] at h
    obtain ⟨v, s, rfl, h1, _⟩ := h
    simp only [List.getElem?_cons_zero, Option.some.injEq] at e
    subst e
    exact ⟨v, rfl, h1⟩
  | x :: r, vs, i + 1, d, h, e => by
    simp only [RepL] at h
    obtain ⟨v, s, rfl, _, h2⟩ := h
    simp only [List.getElem?_cons_succ] at e ⊢
    exact RepL.get h2 e
theorem RepL.getV : ∀ {ds : List D} {vs : List V} {i : Nat} {v : V}, RepL P w K Z β ds vs → vs[i]? = some v → ∃ d, ds[i]? = some d ∧ RepV P w K Z β d v
  | [], vs, _, _, h, e => by
    simp only [RepL] at h
    subst h
    simp at e
  | x :: r, vs, 0, d, h, e => by
    simp only [RepL] at h
    obtain ⟨v, s, rfl, h1, _⟩ := h
    simp only [List.getElem?_cons_zero, Option.some.injEq] at e
    subst e
    exact ⟨x, rfl, h1⟩
  | x :: r, vs, i + 1, d, h, e => by
    simp only [RepL] at h
    obtain ⟨v, s, rfl, _, h2⟩ := h
    simp only [List.getElem?_cons_succ] at e ⊢
    exact RepL.getV h2 e
theorem RepL.append : ∀ {ds es : List D} {vs ws : List V}, RepL P w K Z β ds vs → RepL P w K Z β es ws → RepL P w K Z β (ds ++ es) (vs ++ ws)
  | [], _, vs, _, h, h' => by
    simp only [RepL] at h
    subst h
    exact h'
  | x :: r, _, vs, _, h, h' => by
    simp only [RepL] at h
    obtain ⟨v, s, rfl, h1, h2⟩ := h
    exact RepL.cons h1 (RepL.append h2 h')
theorem RepL.take : ∀ {ds : List D} {vs : List V} (n : Nat), RepL P w K Z β ds vs → RepL P w K Z β (ds.take n) (vs.take n)
  | ds, vs, 0, h => by simp only [List.take_zero]; exact RepL.nil
  | [], vs, n + 1, h => by
    simp only [RepL] at h
    subst h
    exact RepL.nil
  | x :: r, vs, n + 1, h => by
    simp only [RepL] at h
    obtain ⟨v, s, rfl, h1, h2⟩ := h
    exact RepL.cons h1 (RepL.take n h2)
theorem RepL.drop : ∀ {ds : List D} {vs : List V} (n : Nat), RepL P w K Z β ds vs → RepL P w K Z β (ds.drop n) (vs.drop n)
  | ds, vs, 0, h => by simpa using h
  | [], vs, n + 1, h => by
    simp only [RepL] at h
    subst h
    exact RepL.nil
  | x :: r, vs, n + 1, h => by
    simp only [RepL] at h
    obtain ⟨v, s, rfl, h1, h2⟩ := h
    exact RepL.drop n h2
theorem RepL.reverse {ds : List D} {vs : List V} (h : RepL P w K Z β ds vs) : RepL P w K Z β ds.reverse vs.reverse := by
  induction ds generalizing vs with
  | nil =>
    simp only [RepL] at h
    subst h
    exact RepL.nil
  | cons x r ih =>
    simp only [RepL] at h
    obtain ⟨v, s, rfl, h1, h2⟩ := h
    rw [List.reverse_cons, List.reverse_cons]
    exact RepL.append (ih h2) (RepL.cons h1 RepL.nil)
theorem RepL.set : ∀ {ds : List D} {vs : List V} {i : Nat} {d : D} {v : V}, RepL P w K Z β ds vs → RepV P w K Z β d v → RepL P w K Z β (ds.set i d) (vs.set i v)
  | [], vs, i, d, v, h, r => by
    simp only [RepL] at h
    subst h
    exact RepL.nil
  | x :: t, vs, 0, d, v, h, r => by
    simp only [RepL] at h
    obtain ⟨w', s, rfl, h1, h2⟩ := h
    exact RepL.cons r h2
  | x :: t, vs, i + 1, d, v, h, r => by
    simp only [RepL] at h
    obtain ⟨w', s, rfl, h1, h2⟩ := h
    exact RepL.cons h1 (RepL.set h2 r)
theorem RepL.eraseIdx : ∀ {ds : List D} {vs : List V} {i : Nat}, RepL P w K Z β ds vs → RepL P w K Z β (ds.eraseIdx i) (vs.eraseIdx i)
  | [], vs, i, h => by
    simp only [RepL] at h
    subst h
    exact RepL.nil
  | x :: t, vs, 0, h => by
    simp only [RepL] at h
    obtain ⟨w', s, rfl, h1, h2⟩ := h
    exact h2
  | x :: t, vs, i + 1, h => by
    simp only [RepL] at h
    obtain ⟨w', s, rfl, h1, h2⟩ := h
    exact RepL.cons h1 (RepL.eraseIdx h2)
theorem RepL.ints : ∀ (ns : List Int), RepL P w K Z β (ns.map .int) (ns.map V.int)
  | [] => RepL.nil
  | n :: r => RepL.cons (by simp only [RepV]) (RepL.ints r)
theorem RepL.isInts : ∀ {ns : List Int} {vs : List V}, RepL P w K Z β (ns.map .int) vs → vs = ns.map V.int
  | [], vs, h => by simpa only [List.map_nil, RepL] using h
  | n :: r, vs, h => by
    simp only [List.map_cons, RepL, RepV] at h
    obtain ⟨v, s, rfl, rfl, h2⟩ := h
    rw [RepL.isInts h2, List.map_cons]
end
/-! ### the fields of all classes -/
def FLD : List String := ["goal", "leads", "backs", "used", "tale", "needs", "ranks", "floors", "numbers", "seen", "said", "taken", "live", "known", "holders", "world_told", "events", "states", "pairs", "kept", "ending", "people", "matters", "against"]
/-- what is asked of a class -/
def ClsF (K : PySem.W.Frag) (C : Addr) : Prop := Cls K C ∧ ∀ f ∈ FLD, NoAttr K C (Str.ofString f)
theorem fld_inj {f g : String} (hf : FLD.contains f = true) (hg : FLD.contains g = true) (h : Str.ofString f = Str.ofString g) : f = g := by
  have q : (FLD.all fun a => FLD.all fun b => decide (Str.ofString a = Str.ofString b → a = b)) = true := by decide +kernel
  rw [List.all_eq_true] at q
  have q1 := q f (by simpa using hf)
  rw [List.all_eq_true] at q1
  exact of_decide_eq_true (q1 g (by simpa using hg)) h
/-! ### the store -/
section
variable (P : Program) (w : World) (K : PySem.W.Frag) (mg : Str → Option Value) (Φ : List (Addr × HO)) (Z : Hp) (β : List Addr)
def RepF : List (String × D) → List (Str × V) → Prop
  | [], l => l = []
  | (f, x) :: r, l => FLD.contains f = true ∧ ∃ v s, l = (Str.ofString f, v) :: s ∧ RepV P w K Z β x v ∧ RepF r s
/-- the object o stands at a -/
def RepO (H : Hp) : MO → Addr → Prop
  | .lst xs, a => ∃ vs, H a = some (.lst vs) ∧ RepL P w K Z β xs vs
  | .dct t kvs, a => (t = 0 ∧ ∃ l, H a = some (.dK l) ∧ RepK P w K Z β kvs l) ∨ (t = 1 ∧ ∃ l, H a = some (dN P w a l) ∧ (l.map (·.1)).Nodup ∧ RepT P w K Z β kvs l)
  | .ins c fs, a => ∃ C dx l, (mg (Str.ofString c) = some (.ref C) ∧ ClsF K C) ∧ H a = some (.ins C dx l) ∧ RepF P w K Z β fs l
structure Rel (U : Store) (H : Hp) : Prop where
  zle : ZLe Z H
  len : β.length = U.length
  nd : β.Nodup
  sep : ∀ a ∈ β, Z a = none
  obj : ∀ (n : Nat) (o : MO) (a : Addr), U[n]? = some o → β[n]? = some a → RepO P w K mg Z β H o a
  ext : ∀ q ∈ Φ, H q.1 = some q.2 ∧ Z q.1 = none ∧ q.1 ∉ β
end
section
variable {P : Program} {w : World} {K : PySem.W.Frag} {mg : Str → Option Value} {Φ : List (Addr × HO)} {Z Z' : Hp} {β β' : List Addr} {U : Store} {H : Hp}
theorem RepF.mono (z : ZLe Z Z') (b : BLe β β') : ∀ {fs : List (String × D)} {l : List (Str × V)}, RepF P w K Z β fs l → RepF P w K Z' β' fs l
  | [], l, h => h
  | (f, x) :: r, l, h => by
    obtain ⟨hf, v, s, e, h1, h2⟩ := h
    exact ⟨hf, v, s, e, RepV.mono z b h1, RepF.mono z b h2⟩
theorem RepF.lookup : ∀ {fs : List (String × D)} {l : List (Str × V)} {f : String} {d : D}, RepF P w K Z β fs l → FLD.contains f = true → fs.lookup f = some d → ∃ v, l.lookup (Str.ofString f) = some v ∧ RepV P w K Z β d v
  | [], l, f, d, h, hf, e => by cases e
  | (g, x) :: r, l, f, d, h, hf, e => by
    obtain ⟨hg, v, s, rfl, h1, h2⟩ := h
    by_cases q : f = g
    · subst q
      simp only [List.lookup_cons, beq_self_eq_true, Option.some.injEq] at e
      subst e
      exact ⟨v, by simp only [List.lookup_cons, beq_self_eq_true], h1⟩
    · have q1 : (f == g) = false := beq_eq_false_iff_ne.mpr q
      have q2 : (Str.ofString f == Str.ofString g) = false := beq_eq_false_iff_ne.mpr fun z => q (fld_inj hf hg z)
      simp only [List.lookup_cons, q1] at e
      simp only [List.lookup_cons, q2]
      exact RepF.lookup h2 hf e
theorem RepF.put : ∀ {fs : List (String × D)} {l : List (Str × V)} {f : String} {d : D} {v : V}, RepF P w K Z β fs l → FLD.contains f = true → RepV P w K Z β d v → RepF P w K Z β (putFld f d fs) (putF (Str.ofString f) v l)
  | [], l, f, d, v, h, hf, rv => by
    have h : l = [] := h
    subst h
    exact ⟨hf, v, [], rfl, rv, rfl⟩
  | (g, x) :: r, l, f, d, v, h, hf, rv => by
    obtain ⟨hg, v', s, rfl, h1, h2⟩ := h
    by_cases q : g = f
    · subst q
      show RepF P w K Z β (if g = g then (g, d) :: r else _) (if Str.ofString g = Str.ofString g then (Str.ofString g, v) :: s else _)
      rw [if_pos rfl, if_pos rfl]
      exact ⟨hg, v, s, rfl, rv, h2⟩
    · show RepF P w K Z β (if g = f then _ else (g, x) :: putFld f d r) (if Str.ofString g = Str.ofString f then _ else (Str.ofString g, v') :: putF (Str.ofString f) v s)
      rw [if_neg q, if_neg fun z => q (fld_inj hg hf z)]
      exact ⟨hg, v', _, rfl, h1, RepF.put h2 hf rv⟩
theorem RepF.none : ∀ {fs : List (String × D)} {l : List (Str × V)} {x : Str}, RepF P w K Z β fs l → (FLD.map Str.ofString).contains x = false → l.lookup x = none
  | [], l, x, h, hx => by
    have h : l = [] := h
    subst h
    rfl
  | (g, y) :: r, l, x, h, hx => by
    obtain ⟨hg, v', s, rfl, h1, h2⟩ := h
    have q2 : (x == Str.ofString g) = false := beq_eq_false_iff_ne.mpr fun z => by
      subst z
      have : (FLD.map Str.ofString).contains (Str.ofString g) = true := by
        rw [List.contains_iff_mem]
        exact List.mem_map.mpr ⟨g, by simpa using hg, rfl⟩
      rw [this] at hx
      cases hx
    simp only [List.lookup_cons, q2]
    exact RepF.none h2 hx
theorem RepF.length : ∀ {fs : List (String × D)} {l : List (Str × V)}, RepF P w K Z β fs l → fs.length = l.length
  | [], l, h => by
    have h : l = [] := h
    subst h
    rfl
  | (g, y) :: r, l, h => by
    obtain ⟨hg, v', s, rfl, h1, h2⟩ := h
    simp [RepF.length h2]
theorem RepO.mono {H' : Hp} (z : ZLe Z Z') (b : BLe β β') {o : MO} {a : Addr} (h : RepO P w K mg Z β H o a) (k : H' a = H a) : RepO P w K mg Z' β' H' o a := by
  cases o with
  | lst xs =>
    obtain ⟨vs, e, r⟩ := h
    exact ⟨vs, k.trans e, RepL.mono z b r⟩
  | dct t kvs =>
    rcases h with ⟨hn, l, e, r⟩ | ⟨hn, l, e, hd, r⟩
    · exact .inl ⟨hn, l, k.trans e, RepK.mono z b r⟩
    · exact .inr ⟨hn, l, k.trans e, hd, RepT.mono z b r⟩
  | ins c fs =>
    obtain ⟨C, dx, l, hc, e, r⟩ := h
    exact ⟨C, dx, l, hc, k.trans e, RepF.mono z b r⟩
theorem RepO.some {o : MO} {a : Addr} (h : RepO P w K mg Z β H o a) : ∃ u, H a = some u := by
  cases o with
  | lst xs => obtain ⟨vs, e, r⟩ := h; exact ⟨_, e⟩
  | dct t kvs =>
    rcases h with ⟨hn, l, e, r⟩ | ⟨hn, l, e, r⟩
    · exact ⟨_, e⟩
    · exact ⟨_, e⟩
  | ins c fs => obtain ⟨C, dx, l, hc, e, r⟩ := h; exact ⟨_, e⟩
theorem Rel.at (R : Rel P w K mg Φ Z β U H) {n : Nat} {o : MO} (e : U[n]? = some o) : ∃ a, β[n]? = some a ∧ RepO P w K mg Z β H o a := by
  have hn : n < β.length := by
    rw [R.len]
    exact (List.getElem?_eq_some_iff.mp e).1
  exact ⟨β[n], List.getElem?_eq_getElem hn, R.obj n o _ e (List.getElem?_eq_getElem hn)⟩
theorem Rel.ref (R : Rel P w K mg Φ Z β U H) {n : Nat} {o : MO} {a : Addr} (e : U[n]? = some o) (h : β[n]? = some a) : RepO P w K mg Z β H o a := R.obj n o a e h
theorem Rel.notZ (R : Rel P w K mg Φ Z β U H) {n : Nat} {a : Addr} (h : β[n]? = some a) : Z a = none := R.sep a (List.mem_of_getElem? h)
theorem Rel.fresh (R : Rel P w K mg Φ Z β U H) {p : Addr} (h : H p = none) : Z p = none ∧ p ∉ β := by
  refine ⟨?_, fun hm => ?_⟩
  · cases e : Z p with
    | none => rfl
    | some o =>
      have := R.zle _ _ e
      rw [h] at this
      cases this
  · obtain ⟨n, hn, e⟩ := List.mem_iff_getElem.mp hm
    have hU : n < U.length := by rw [← R.len]; exact hn
    have e1 : β[n]? = some p := by rw [List.getElem?_eq_getElem hn, e]
    obtain ⟨u, hu⟩ := (R.obj n _ p (List.getElem?_eq_getElem hU) e1).some
    rw [h] at hu
    cases hu
/-- a new frozen object -/
theorem Rel.froze (R : Rel P w K mg Φ Z β U H) {p : Addr} (h : H p = none) (o : HO) : Rel P w K mg Φ (L2.upd Z p o) β U (L2.upd H p o) ∧ ZLe Z (L2.upd Z p o) := by
  obtain ⟨hz, hb⟩ := R.fresh h
  have le : ZLe Z (L2.upd Z p o) := fun a u e => by
    rw [L2.upd_ne (fun q => by subst q; rw [hz] at e; cases e)]
    exact e
  refine ⟨⟨fun a u e => ?_, R.len, R.nd, fun a ha => ?_, fun n m a e1 e2 => ?_, fun q hq => ?_⟩, le⟩
  · by_cases q : a = p
    · subst q
      rw [upd_same] at e ⊢
      exact e
    · rw [upd_ne q] at e ⊢
      exact R.zle a u e
  · rw [upd_ne (fun q => hb (by rw [← q]; exact ha))]
    exact R.sep a ha
  · have ha : a ≠ p := fun q => hb (by rw [← q]; exact List.mem_of_getElem? e2)
    exact (R.obj n m a e1 e2).mono le (BLe.refl β) (upd_ne ha)
  · obtain ⟨q1, q2, q3⟩ := R.ext q hq
    have hq : q.1 ≠ p := fun z => by rw [z, h] at q1; cases q1
    rw [upd_ne hq, upd_ne hq]
    exact ⟨q1, q2, q3⟩
/-- a new object of the store -/
theorem Rel.push (R : Rel P w K mg Φ Z β U H) {p : Addr} (h : H p = none) {u : HO} {o : MO} (hr : RepO P w K mg Z (β ++ [p]) (L2.upd H p u) o p) : Rel P w K mg Φ Z (β ++ [p]) (U ++ [o]) (L2.upd H p u) ∧ BLe β (β ++ [p]) := by
  obtain ⟨hz, hb⟩ := R.fresh h
  have le : BLe β (β ++ [p]) := ⟨[p], rfl⟩
  refine ⟨⟨fun a u' e => ?_, by simp [R.len], ?_, fun a ha => ?_, fun n m a e1 e2 => ?_, fun q hq => ?_⟩, le⟩
  · rw [L2.upd_ne (fun q => by subst q; rw [hz] at e; cases e)]
    exact R.zle a u' e
  · rw [List.nodup_append]
    refine ⟨R.nd, by simp, fun a ha b hb' => ?_⟩
    simp only [List.mem_singleton] at hb'
    subst hb'
    exact fun q => hb (q ▸ ha)
  · rcases List.mem_append.mp ha with ha | ha
    · exact R.sep a ha
    · simp only [List.mem_singleton] at ha
      subst ha
      exact hz
  · by_cases hn : n < U.length
    · rw [List.getElem?_append_left hn] at e1
      rw [List.getElem?_append_left (by rw [R.len]; exact hn)] at e2
      have ha : a ≠ p := fun q => hb (by rw [← q]; exact List.mem_of_getElem? e2)
      exact (R.obj n m a e1 e2).mono (ZLe.refl Z) le (L2.upd_ne ha)
    · have hn2 : n < (U ++ [o]).length := (List.getElem?_eq_some_iff.mp e1).1
      have hn3 : n = U.length := by
        rw [List.length_append] at hn2
        simp at hn2
        omega
      subst hn3
      rw [List.getElem?_append_right (Nat.le_refl _)] at e1
      rw [List.getElem?_append_right (by rw [R.len]; exact Nat.le_refl _)] at e2
      simp [R.len] at e1 e2
      subst e1 e2
      exact hr
  · obtain ⟨q1, q2, q3⟩ := R.ext q hq
    have hq : q.1 ≠ p := fun z => by rw [z, h] at q1; cases q1
    rw [L2.upd_ne hq]
    exact ⟨q1, q2, by simp [q3, hq]⟩
/-- an object of the store changes -/
theorem Rel.write (R : Rel P w K mg Φ Z β U H) {n : Nat} {a : Addr} (e : β[n]? = some a) {u : HO} {o : MO} (hr : RepO P w K mg Z β (L2.upd H a u) o a) : Rel P w K mg Φ Z β (U.set n o) (L2.upd H a u) := by
  have hz : Z a = none := R.notZ e
  refine ⟨fun b u' q => ?_, by simp [R.len], R.nd, R.sep, fun m o' b e1 e2 => ?_, fun q hq => ?_⟩
  · rw [L2.upd_ne (fun z => by subst z; rw [hz] at q; cases q)]
    exact R.zle b u' q
  · by_cases hm : m = n
    · subst hm
      rw [e] at e2
      cases e2
      have hn : m < U.length := by
        rw [← R.len]
        exact (List.getElem?_eq_some_iff.mp e).1
      rw [List.getElem?_set_self hn] at e1
      cases e1
      exact hr
    · rw [List.getElem?_set_ne (fun q => hm q.symm)] at e1
      have hb : b ≠ a := fun q => by
        subst q
        obtain ⟨h1, q1⟩ := List.getElem?_eq_some_iff.mp e
        obtain ⟨h2, q2⟩ := List.getElem?_eq_some_iff.mp e2
        exact hm ((List.getElem_inj R.nd).mp (q2.trans q1.symm))
      exact (R.obj m o' b e1 e2).mono (ZLe.refl Z) (BLe.refl β) (L2.upd_ne hb)
  · obtain ⟨q1, q2, q3⟩ := R.ext q hq
    have hq : q.1 ≠ a := fun z => q3 (z ▸ List.mem_of_getElem? e)
    rw [L2.upd_ne hq]
    exact ⟨q1, q2, q3⟩
/-- an object that is not the store's: put aside, and changed -/
theorem Rel.aside (R : Rel P w K mg Φ Z β U H) {p : Addr} (h : H p = none) (o : HO) : Rel P w K mg ((p, o) :: Φ) Z β U (L2.upd H p o) := by
  obtain ⟨hz, hb⟩ := R.fresh h
  refine ⟨fun a u e => ?_, R.len, R.nd, R.sep, fun n m a e1 e2 => ?_, fun q hq => ?_⟩
  · rw [L2.upd_ne (fun q => by subst q; rw [hz] at e; cases e)]
    exact R.zle a u e
  · exact (R.obj n m a e1 e2).mono (ZLe.refl Z) (BLe.refl β) (L2.upd_ne fun q => hb (q ▸ List.mem_of_getElem? e2))
  · rcases List.mem_cons.mp hq with rfl | hq
    · exact ⟨L2.upd_same, hz, hb⟩
    · obtain ⟨q1, q2, q3⟩ := R.ext q hq
      rw [L2.upd_ne (fun z => by rw [z, h] at q1; cases q1)]
      exact ⟨q1, q2, q3⟩
theorem Rel.aside2 {p : Addr} {o : HO} (R : Rel P w K mg ((p, o) :: Φ) Z β U H) (hn : ∀ q ∈ Φ, q.1 ≠ p) (o' : HO) : Rel P w K mg ((p, o') :: Φ) Z β U (L2.upd H p o') := by
  obtain ⟨h1, hz, hb⟩ := R.ext (p, o) (by simp)
  refine ⟨fun a u e => ?_, R.len, R.nd, R.sep, fun n m a e1 e2 => ?_, fun q hq => ?_⟩
  · rw [L2.upd_ne (fun q => by subst q; rw [hz] at e; cases e)]
    exact R.zle a u e
  · exact (R.obj n m a e1 e2).mono (ZLe.refl Z) (BLe.refl β) (L2.upd_ne fun q => hb (q ▸ List.mem_of_getElem? e2))
  · rcases List.mem_cons.mp hq with rfl | hq
    · exact ⟨L2.upd_same, hz, hb⟩
    · obtain ⟨q1, q2, q3⟩ := R.ext q (by simp [hq])
      rw [L2.upd_ne (hn q hq)]
      exact ⟨q1, q2, q3⟩
theorem Rel.drop {q : Addr × HO} (R : Rel P w K mg (q :: Φ) Z β U H) : Rel P w K mg Φ Z β U H := ⟨R.zle, R.len, R.nd, R.sep, R.obj, fun p hp => R.ext p (by simp [hp])⟩
/-- what was put aside is frozen -/
theorem Rel.settle {p : Addr} {o : HO} (R : Rel P w K mg ((p, o) :: Φ) Z β U H) (hn : ∀ q ∈ Φ, q.1 ≠ p) : Rel P w K mg Φ (L2.upd Z p o) β U H ∧ ZLe Z (L2.upd Z p o) := by
  obtain ⟨h1, hz, hb⟩ := R.ext (p, o) (by simp)
  have le : ZLe Z (L2.upd Z p o) := fun a u e => by
    rw [L2.upd_ne (fun q => by subst q; rw [hz] at e; cases e)]
    exact e
  refine ⟨⟨fun a u e => ?_, R.len, R.nd, fun a ha => ?_, fun n m a e1 e2 => ?_, fun q hq => ?_⟩, le⟩
  · by_cases q : a = p
    · subst q
      rw [upd_same] at e
      cases e
      exact h1
    · rw [upd_ne q] at e
      exact R.zle a u e
  · rw [upd_ne (fun q => hb (by rw [← q]; exact ha))]
    exact R.sep a ha
  · exact (R.obj n m a e1 e2).mono le (BLe.refl β) rfl
  · obtain ⟨q1, q2, q3⟩ := R.ext q (by simp [hq])
    rw [upd_ne (hn q hq)]
    exact ⟨q1, q2, q3⟩
/-- what was put aside goes to the store -/
theorem Rel.adopt {p : Addr} {u : HO} (R : Rel P w K mg ((p, u) :: Φ) Z β U H) (hn : ∀ q ∈ Φ, q.1 ≠ p) {o : MO} (hr : RepO P w K mg Z (β ++ [p]) H o p) : Rel P w K mg Φ Z (β ++ [p]) (U ++ [o]) H ∧ BLe β (β ++ [p]) := by
  obtain ⟨h1, hz, hb⟩ := R.ext (p, u) (by simp)
  have le : BLe β (β ++ [p]) := ⟨[p], rfl⟩
  refine ⟨⟨R.zle, by simp [R.len], ?_, fun a ha => ?_, fun n m a e1 e2 => ?_, fun q hq => ?_⟩, le⟩
  · rw [List.nodup_append]
    refine ⟨R.nd, by simp, fun a ha b hb' => ?_⟩
    simp only [List.mem_singleton] at hb'
    subst hb'
    exact fun q => hb (q ▸ ha)
  · rcases List.mem_append.mp ha with ha | ha
    · exact R.sep a ha
    · simp only [List.mem_singleton] at ha
      subst ha
      exact hz
  · by_cases hn : n < U.length
    · rw [List.getElem?_append_left hn] at e1
      rw [List.getElem?_append_left (by rw [R.len]; exact hn)] at e2
      exact (R.obj n m a e1 e2).mono (ZLe.refl Z) le rfl
    · have hn2 : n < (U ++ [o]).length := (List.getElem?_eq_some_iff.mp e1).1
      have hn3 : n = U.length := by
        rw [List.length_append] at hn2
        simp at hn2
        omega
      subst hn3
      rw [List.getElem?_append_right (Nat.le_refl _)] at e1
      rw [List.getElem?_append_right (by rw [R.len]; exact Nat.le_refl _)] at e2
      simp [R.len] at e1 e2
      subst e1 e2
      exact hr
  · obtain ⟨q1, q2, q3⟩ := R.ext q (by simp [hq])
    exact ⟨q1, q2, by simp [q3, hn q hq]⟩
end
/-! ### lists and tuples, frozen or in the store -/
section
variable {P : Program} {w : World} {K : PySem.W.Frag} {mg : Str → Option Value} {Φ : List (Addr × HO)} {Z : Hp} {β : List Addr} {U : Store} {H : Hp}
theorem Rel.list (R : Rel P w K mg Φ Z β U H) {d : D} {xs : List D} {v : V} (h : asL U d = some xs) (r : RepV P w K Z β d v) : ∃ a vs, v = .ref a ∧ SqL K H a vs ∧ RepL P w K Z β xs vs := by
  cases d <;> simp only [asL, reduceCtorEq] at h
  · cases h
    simp only [RepV] at r
    obtain ⟨a, vs, e, s, q⟩ := r
    exact ⟨a, vs, e, SqL.le R.zle s, q⟩
  · simp only [RepV] at r
    obtain ⟨a, e, hb⟩ := r
    split at h <;> simp only [Option.some.injEq, reduceCtorEq] at h
    subst h
    rename_i hu
    obtain ⟨vs, e1, q⟩ := R.obj _ _ _ hu hb
    exact ⟨a, vs, e, SqL.of e1, q⟩
theorem Rel.seq (R : Rel P w K mg Φ Z β U H) {d : D} {xs : List D} {v : V} (h : asQ U d = some xs) (r : RepV P w K Z β d v) : ∃ a vs, v = .ref a ∧ (SqL K H a vs ∨ SqT K H a vs) ∧ RepL P w K Z β xs vs := by
  by_cases ht : ∃ ys, d = .tup ys
  · obtain ⟨ys, rfl⟩ := ht
    simp only [asQ, Option.some.injEq] at h
    subst h
    simp only [RepV] at r
    obtain ⟨a, vs, e, s, q⟩ := r
    exact ⟨a, vs, e, .inr (SqT.le R.zle s), q⟩
  · have h' : asL U d = some xs := by
      cases d <;> first | exact h | exact absurd ⟨_, rfl⟩ ht
    obtain ⟨a, vs, e, s, q⟩ := R.list h' r
    exact ⟨a, vs, e, .inl s, q⟩
theorem Rel.tuple (R : Rel P w K mg Φ Z β U H) {xs : List D} {v : V} (r : RepV P w K Z β (.tup xs) v) : ∃ a vs, v = .ref a ∧ SqT K H a vs ∧ RepL P w K Z β xs vs := by
  simp only [RepV] at r
  obtain ⟨a, vs, e, s, q⟩ := r
  exact ⟨a, vs, e, SqT.le R.zle s, q⟩
/-- a new list -/
theorem Rel.mkL (R : Rel P w K mg Φ Z β U H) {m : Bool} {xs : List D} {vs : List V} {d : D} {U' : Store} (e : mkL m xs U = some (.ok d U')) (r : RepL P w K Z β xs vs) {p : Addr} (hp : H p = none) :
    ∃ Z' β', ZLe Z Z' ∧ BLe β β' ∧ Rel P w K mg Φ Z' β' U' (L2.upd H p (.lst vs)) ∧ RepV P w K Z' β' d (.ref p) := by
  cases m with
  | true =>
    simp only [VI.mkL, if_true, Option.some.injEq, VI.R.ok.injEq] at e
    obtain ⟨rfl, rfl⟩ := e
    obtain ⟨R', le⟩ := R.push hp (u := .lst vs) (o := .lst xs) ⟨vs, L2.upd_same, RepL.mono (ZLe.refl Z) ⟨[p], rfl⟩ r⟩
    refine ⟨Z, β ++ [p], ZLe.refl Z, le, R', ?_⟩
    simp only [RepV]
    exact ⟨p, rfl, by rw [← R.len]; simp⟩
  | false =>
    simp only [VI.mkL, Bool.false_eq_true, if_false, Option.some.injEq, VI.R.ok.injEq] at e
    obtain ⟨rfl, rfl⟩ := e
    obtain ⟨R', le⟩ := R.froze hp (.lst vs)
    refine ⟨_, β, le, BLe.refl β, R', ?_⟩
    simp only [RepV]
    exact ⟨p, vs, rfl, SqL.of L2.upd_same, RepL.mono le (BLe.refl β) r⟩
theorem Rel.mkT (R : Rel P w K mg Φ Z β U H) {xs : List D} {vs : List V} (r : RepL P w K Z β xs vs) {p : Addr} (hp : H p = none) :
    ∃ Z', ZLe Z Z' ∧ Rel P w K mg Φ Z' β U (L2.upd H p (.tup vs)) ∧ RepV P w K Z' β (.tup xs) (.ref p) := by
  obtain ⟨R', le⟩ := R.froze hp (.tup vs)
  refine ⟨_, le, R', ?_⟩
  simp only [RepV]
  exact ⟨p, vs, rfl, SqT.of L2.upd_same, RepL.mono le (BLe.refl β) r⟩
end
end VI

/-! VIb2: trees behind data (rs, snap), ==, in, the operators by values. -/
namespace VI
open PySem PySem.Spec PyProof.Rows L2
theorem rsv_flat {U : Store} {n₀ : Nat} {sub : D → Option D} {k : D} (h : flatK k = true) : rsv U n₀ sub k = some k := by
  cases k <;> simp [flatK] at h <;> simp [rsv]
theorem rsvL_flat {U : Store} {n₀ : Nat} {sub : D → Option D} : ∀ {ks : List D}, ks.all flatK = true → rsvL U n₀ sub ks = some ks
  | [], _ => by simp [rsvL]
  | x :: r, h => by
    simp only [List.all_cons, Bool.and_eq_true] at h
    simp [rsvL, rsv_flat h.1, rsvL_flat h.2]
theorem rsv_tupK {U : Store} {n₀ : Nat} {sub : D → Option D} {k : D} (h : tupK k = true) : rsv U n₀ sub k = some k := by
  obtain ⟨xs, rfl, h⟩ := tupK_shape h
  simp [rsv, rsvL_flat h]
theorem rsv_key {U : Store} {n₀ : Nat} {sub : D → Option D} {k : D} (h : keyFor 1 k = true) : rsv U n₀ sub k = some k := by
  simp only [keyFor, Bool.or_eq_true] at h
  rcases h with h | h
  · exact rsv_tupK h
  · obtain ⟨x, y, rfl, h1, h2⟩ := pairK_shape h
    simp [rsv, rsvL, rsv_tupK h1, rsv_tupK h2]
section
variable {P : Program} {w : World} {K : PySem.W.Frag} {mg : Str → Option Value} {Φ : List (Addr × HO)} {Z Z' : Hp} {β β' : List Addr} {U : Store} {H : Hp}
mutual
theorem rsv_rep {n₀ : Nat} {sub : D → Option D} (z : ZLe Z Z') (hs : ∀ n a d', β[n]? = some a → sub (.ref n) = some d' → RepV P w K Z' β' d' (.ref a)) : ∀ {d d' : D} {v : V}, rsv U n₀ sub d = some d' → RepV P w K Z β d v → RepV P w K Z' β' d' v
  | .non, d', v, h, r => by
    simp only [rsv, Option.some.injEq] at h
    subst h
    simpa only [RepV] using r
  | .bl _, d', v, h, r => by
    simp only [rsv, Option.some.injEq] at h
    subst h
    simpa only [RepV] using r
  | .int _, d', v, h, r => by
    simp only [rsv, Option.some.injEq] at h
    subst h
    simpa only [RepV] using r
  | .str _, d', v, h, r => by
    simp only [rsv, Option.some.injEq] at h
    subst h
    simpa only [RepV] using r
  | .tup xs, d', v, h, r => by
    simp only [rsv, Option.map_eq_some_iff] at h
    obtain ⟨ys, h, rfl⟩ := h
    simp only [RepV] at r ⊢
    obtain ⟨a, vs, e, s, q⟩ := r
    exact ⟨a, vs, e, SqT.le z s, rsvL_rep z hs h q⟩
  | .lst xs, d', v, h, r => by
    simp only [rsv, Option.map_eq_some_iff] at h
    obtain ⟨ys, h, rfl⟩ := h
    simp only [RepV] at r ⊢
    obtain ⟨a, vs, e, s, q⟩ := r
    exact ⟨a, vs, e, SqL.le z s, rsvL_rep z hs h q⟩
  | .dct t kvs, d', v, h, r => by
    simp only [rsv, Option.map_eq_some_iff] at h
    obtain ⟨ys, h, rfl⟩ := h
    simp only [RepV] at r ⊢
    obtain ⟨a, e, q⟩ := r
    refine ⟨a, e, ?_⟩
    rcases q with ⟨hn, l, h1, h2⟩ | ⟨hn, l, h1, hd, h2⟩
    · exact .inl ⟨hn, l, z _ _ h1, rsvP_repK z hs h h2⟩
    · exact .inr ⟨hn, l, Rd.le z h1, hd, rsvP_repT z hs h h2⟩
  | .ref n, d', v, h, r => by
    simp only [RepV] at r
    obtain ⟨a, rfl, e⟩ := r
    exact hs n a d' e h
  | .exn _ _, d', v, h, r => by simp only [RepV] at r
theorem rsvL_rep {n₀ : Nat} {sub : D → Option D} (z : ZLe Z Z') (hs : ∀ n a d', β[n]? = some a → sub (.ref n) = some d' → RepV P w K Z' β' d' (.ref a)) : ∀ {ds ds' : List D} {vs : List V}, rsvL U n₀ sub ds = some ds' → RepL P w K Z β ds vs → RepL P w K Z' β' ds' vs
  | [], ds', vs, h, r => by
    simp only [rsvL, Option.some.injEq] at h
    subst h
    simpa only [RepL] using r
  | x :: t, ds', vs, h, r => by
    simp only [rsvL] at h
    split at h <;> simp only [Option.some.injEq, reduceCtorEq] at h
    rename_i y s e1 e2
    subst h
    simp only [RepL] at r
    obtain ⟨v, s', rfl, r1, r2⟩ := r
    exact RepL.cons (rsv_rep z hs e1 r1) (rsvL_rep z hs e2 r2)
theorem rsvP_repK {n₀ : Nat} {sub : D → Option D} (z : ZLe Z Z') (hs : ∀ n a d', β[n]? = some a → sub (.ref n) = some d' → RepV P w K Z' β' d' (.ref a)) : ∀ {ds ds' : List (D × D)} {vs : List (Key × V)}, rsvP U n₀ sub ds = some ds' → RepK P w K Z β ds vs → RepK P w K Z' β' ds' vs
  | [], ds', vs, h, r => by
    simp only [rsvP, Option.some.injEq] at h
    subst h
    simpa only [RepK] using r
  | (k, x) :: t, ds', vs, h, r => by
    simp only [rsvP] at h
    split at h <;> simp only [Option.some.injEq, reduceCtorEq] at h
    rename_i j y s e0 e1 e2
    subst h
    simp only [RepK] at r ⊢
    obtain ⟨kk, v, s', rfl, r0, r1, r2⟩ := r
    have ej : j = k := by
      cases k <;> simp [keyD] at r0 <;> simp [rsv] at e0 <;> exact e0.symm
    subst ej
    exact ⟨kk, v, s', rfl, r0, rsv_rep z hs e1 r1, rsvP_repK z hs e2 r2⟩
theorem rsvP_repT {n₀ : Nat} {sub : D → Option D} (z : ZLe Z Z') (hs : ∀ n a d', β[n]? = some a → sub (.ref n) = some d' → RepV P w K Z' β' d' (.ref a)) : ∀ {ds ds' : List (D × D)} {vs : List (NestedKey × Addr × Value)}, rsvP U n₀ sub ds = some ds' → RepT P w K Z β ds vs → RepT P w K Z' β' ds' vs
  | [], ds', vs, h, r => by
    simp only [rsvP, Option.some.injEq] at h
    subst h
    simpa only [RepT] using r
  | (k, x) :: t, ds', vs, h, r => by
    simp only [rsvP] at h
    split at h <;> simp only [Option.some.injEq, reduceCtorEq] at h
    rename_i j y s e0 e1 e2
    subst h
    simp only [RepT] at r ⊢
    obtain ⟨c, u, v, s', rfl, hk, rk, ru, r1, r2⟩ := r
    have ej : j = k := by
      rw [rsv_key hk] at e0
      exact (Option.some.inj e0).symm
    subst ej
    exact ⟨c, u, v, s', rfl, hk, rsv_rep (n₀ := n₀) (sub := sub) z hs (rsv_key hk) rk, ru, rsv_rep z hs e1 r1, rsvP_repT z hs e2 r2⟩
end
/-- what the objects from n₀ on are taken to -/
theorem subAt_rep {n₀ : Nat} (R : Rel P w K mg Φ Z β U H) (z : ZLe Z Z') (hz : ∀ n a, n₀ ≤ n → β[n]? = some a → Z' a = H a) (hb : ∀ n a, n < n₀ → β[n]? = some a → β'[n]? = some a) :
    ∀ (f n : Nat) (a : Addr) (d' : D), β[n]? = some a → subAt U n₀ f (.ref n) = some d' → RepV P w K Z' β' d' (.ref a)
  | 0, n, a, d', _, h => by simp [subAt] at h
  | f + 1, n, a, d', e, h => by
    simp only [subAt] at h
    by_cases hn : n < n₀
    · rw [if_pos hn] at h
      cases h
      simp only [RepV]
      exact ⟨a, rfl, hb n a hn e⟩
    · rw [if_neg hn] at h
      have ih := subAt_rep R z hz hb f
      split at h
      · rename_i xs hu
        simp only [Option.map_eq_some_iff] at h
        obtain ⟨ys, h, rfl⟩ := h
        obtain ⟨vs, e1, q⟩ := R.obj n _ a hu e
        simp only [RepV]
        exact ⟨a, vs, rfl, SqL.of ((hz n a (by omega) e).trans e1), rsvL_rep z ih h q⟩
      · rename_i t kvs hu
        simp only [Option.map_eq_some_iff] at h
        obtain ⟨ys, h, rfl⟩ := h
        simp only [RepV]
        refine ⟨a, rfl, ?_⟩
        rcases R.obj n _ a hu e with ⟨hn, l, e1, q⟩ | ⟨hn, l, e1, hd, q⟩
        · exact .inl ⟨hn, l, (hz n a (by omega) e).trans e1, rsvP_repK z ih h q⟩
        · exact .inr ⟨hn, l, .inl ((hz n a (by omega) e).trans e1), hd, rsvP_repT z ih h q⟩
      · cases h
/-- the tree behind a datum, over the whole heap -/
theorem snap_rep (R : Rel P w K mg Φ Z β U H) {d d' : D} {v : V} (h : snap U d = some d') (r : RepV P w K Z β d v) : RepV P w K H [] d' v :=
  rsv_rep R.zle (fun n a d' e hd => subAt_rep (n₀ := 0) R R.zle (fun _ _ _ _ => rfl) (fun _ _ h => absurd h (by omega)) 8 n a d' e hd) h r
theorem snapL_rep (R : Rel P w K mg Φ Z β U H) : ∀ {ds ds' : List D} {vs : List V}, snapL U ds = some ds' → RepL P w K Z β ds vs → RepL P w K H [] ds' vs
  | [], ds', vs, h, r => by
    simp only [snapL, Option.some.injEq] at h
    subst h
    simpa only [RepL] using r
  | x :: t, ds', vs, h, r => by
    simp only [snapL] at h
    split at h <;> simp only [Option.some.injEq, reduceCtorEq] at h
    rename_i y s e1 e2
    subst h
    simp only [RepL] at r
    obtain ⟨v, s', rfl, r1, r2⟩ := r
    exact RepL.cons (snap_rep R e1 r1) (snapL_rep R e2 r2)
end

/-! ### == -/
mutual
def toP : D → PyData
  | .non => .none
  | .bl b => .bool b
  | .int i => .int i
  | .str x => .str ⟨x.toArray⟩
  | .tup xs => .tuple (toPL xs)
  | .lst xs => .list (toPL xs)
  | .dct _ _ => .none
  | .ref _ => .none
  | .exn _ _ => .none
def toPL : List D → List PyData
  | [] => []
  | x :: r => toP x :: toPL r
end
theorem toPL_map : ∀ xs : List D, toPL xs = xs.map toP
  | [] => by simp [toPL]
  | x :: r => by simp [toPL, toPL_map r]
theorem tx_beq (x y : Tx) : ((⟨x.toArray⟩ : Str) == ⟨y.toArray⟩) = decide (x = y) := by
  rw [Bool.eq_iff_iff]
  simp
mutual
theorem eqv_toP : ∀ (a b : D) (n m : Nat), plain a n = true → plain b m = true → PyData.eqv (toP a) (toP b) = pyeq a b
  | .non, b, n, m, h, h' => by cases b <;> simp_all [toP, PyData.eqv, pyeq, plain]
  | .bl _, b, n, m, h, h' => by cases b <;> simp_all [toP, PyData.eqv, pyeq, plain] <;> rfl
  | .int _, b, n, m, h, h' => by cases b <;> simp_all [toP, PyData.eqv, pyeq, plain] <;> rfl
  | .str x, b, n, m, h, h' => by
    cases b <;> simp_all [toP, PyData.eqv, pyeq, plain]
    exact tx_beq _ _
  | .tup xs, b, 0, m, h, h' => by simp [plain] at h
  | .lst xs, b, 0, m, h, h' => by simp [plain] at h
  | .tup xs, b, n + 1, m, h, h' => by
    cases b with
    | tup ys =>
      cases m with
      | zero => simp [plain] at h'
      | succ m =>
        simp only [plain] at h h'
        simp only [toP, PyData.eqv, pyeq]
        exact eqv_toPL xs ys n m h h'
    | _ => simp_all [toP, PyData.eqv, pyeq, plain]
  | .lst xs, b, n + 1, m, h, h' => by
    cases b with
    | lst ys =>
      cases m with
      | zero => simp [plain] at h'
      | succ m =>
        simp only [plain] at h h'
        simp only [toP, PyData.eqv, pyeq]
        exact eqv_toPL xs ys n m h h'
    | _ => simp_all [toP, PyData.eqv, pyeq, plain]
  | .dct _ _, b, n, m, h, h' => by simp [plain] at h
  | .ref _, b, n, m, h, h' => by simp [plain] at h
  | .exn _ _, b, n, m, h, h' => by simp [plain] at h
theorem eqv_toPL : ∀ (a b : List D) (n m : Nat), plainL a n = true → plainL b m = true → PyData.eqvAll (toPL a) (toPL b) = pyeqL a b
  | [], [], n, m, h, h' => by simp [toPL, PyData.eqvAll, pyeqL]
  | [], y :: s, n, m, h, h' => by simp [toPL, PyData.eqvAll, pyeqL]
  | x :: r, [], n, m, h, h' => by simp [toPL, PyData.eqvAll, pyeqL]
  | x :: r, y :: s, n, m, h, h' => by
    simp only [plainL, Bool.and_eq_true] at h h'
    simp only [toPL, PyData.eqvAll, pyeqL, eqv_toP x y n m h.1 h'.1, eqv_toPL r s n m h.2 h'.2]
end
mutual
theorem lay_toP : ∀ (a : D) (n : Nat), plain a n = true → PyData.canLay0 (toP a) = true ∧ (toP a).depth ≤ n
  | .non, n, h => by simp [toP, PyData.canLay0, PyData.depth]
  | .bl _, n, h => by simp [toP, PyData.canLay0, PyData.depth]
  | .int _, n, h => by simp [toP, PyData.canLay0, PyData.depth]
  | .str x, n, h => by
    refine ⟨?_, by simp [toP, PyData.depth]⟩
    simp only [toP, PyData.canLay0]
    simp only [plain] at h
    unfold PyData.strOk
    rw [← Array.all_toList]
    exact h
  | .tup xs, 0, h => by simp [plain] at h
  | .lst xs, 0, h => by simp [plain] at h
  | .tup xs, n + 1, h => by
    simp only [plain] at h
    have := lay_toPL xs n h
    simp only [toP, PyData.canLay0, PyData.depth]
    exact ⟨this.1, by omega⟩
  | .lst xs, n + 1, h => by
    simp only [plain] at h
    have := lay_toPL xs n h
    simp only [toP, PyData.canLay0, PyData.depth]
    exact ⟨this.1, by omega⟩
  | .dct _ _, n, h => by simp [plain] at h
  | .ref _, n, h => by simp [plain] at h
  | .exn _ _, n, h => by simp [plain] at h
theorem lay_toPL : ∀ (a : List D) (n : Nat), plainL a n = true → PyData.canLayAll0 (toPL a) = true ∧ PyData.depthAll (toPL a) ≤ n
  | [], n, h => by simp [toPL, PyData.canLayAll0, PyData.depthAll]
  | x :: r, n, h => by
    simp only [plainL, Bool.and_eq_true] at h
    have h1 := lay_toP x n h.1
    have h2 := lay_toPL r n h.2
    simp only [toPL, PyData.canLayAll0, PyData.depthAll, Bool.and_eq_true]
    exact ⟨⟨h1.1, h2.1⟩, by omega⟩
end
theorem shaped_toP {a : D} (h : plain a 40 = true) : SeqAt.shaped (toP a) = true := by
  have := lay_toP a 40 h
  show (PyData.canLay0 (toP a) && decide ((toP a).depth ≤ 64)) = true
  rw [Bool.and_eq_true]
  exact ⟨this.1, decide_eq_true (by omega)⟩
theorem shaped_toPL {a : List D} (h : plainL a 40 = true) : SeqAt.shaped (.list (toPL a)) = true := by
  have := lay_toPL a 40 h
  show (PyData.canLay0 (.list (toPL a)) && decide ((PyData.list (toPL a)).depth ≤ 64)) = true
  rw [Bool.and_eq_true]
  simp only [PyData.canLay0, PyData.depth]
  exact ⟨this.1, decide_eq_true (by omega)⟩
theorem shaped_toPT {a : List D} (h : plainL a 40 = true) : SeqAt.shaped (.tuple (toPL a)) = true := by
  have := lay_toPL a 40 h
  show (PyData.canLay0 (.tuple (toPL a)) && decide ((PyData.tuple (toPL a)).depth ≤ 64)) = true
  rw [Bool.and_eq_true]
  simp only [PyData.canLay0, PyData.depth]
  exact ⟨this.1, decide_eq_true (by omega)⟩
mutual
theorem dp_of {P : Program} {w : World} {K : PySem.W.Frag} {H : Hp} : ∀ {a : D} {v : V} {n : Nat}, plain a n = true → RepV P w K H [] a v → Dp K H v (toP a)
  | .non, v, n, h, r => by
    simp only [RepV] at r
    subst r
    exact .non
  | .bl b, v, n, h, r => by
    simp only [RepV] at r
    subst r
    exact .bl b
  | .int b, v, n, h, r => by
    simp only [RepV] at r
    subst r
    exact .int b
  | .str b, v, n, h, r => by
    simp only [RepV] at r
    subst r
    exact .str _
  | .tup xs, v, 0, h, r => by simp [plain] at h
  | .lst xs, v, 0, h, r => by simp [plain] at h
  | .tup xs, v, n + 1, h, r => by
    simp only [plain] at h
    simp only [RepV] at r
    obtain ⟨a, vs, rfl, s, q⟩ := r
    exact .tup s (dpL_of h q)
  | .lst xs, v, n + 1, h, r => by
    simp only [plain] at h
    simp only [RepV] at r
    obtain ⟨a, vs, rfl, s, q⟩ := r
    exact .lst s (dpL_of h q)
  | .dct _ _, v, n, h, r => by simp [plain] at h
  | .ref _, v, n, h, r => by simp [plain] at h
  | .exn _ _, v, n, h, r => by simp [plain] at h
theorem dpL_of {P : Program} {w : World} {K : PySem.W.Frag} {H : Hp} : ∀ {a : List D} {v : List V} {n : Nat}, plainL a n = true → RepL P w K H [] a v → DpAll K H v (toPL a)
  | [], v, n, h, r => by
    simp only [RepL] at r
    subst r
    exact .nil
  | x :: t, v, n, h, r => by
    simp only [plainL, Bool.and_eq_true] at h
    simp only [RepL] at r
    obtain ⟨v1, s, rfl, r1, r2⟩ := r
    exact .cons (dp_of h.1 r1) (dpL_of h.2 r2)
end
theorem flat_eqV {P : Program} {w : World} {K : PySem.W.Frag} {Z : Hp} {β : List Addr} {a b : D} {x y : V} (fa : flat a = true) (fb : flat b = true) (ra : RepV P w K Z β a x) (rb : RepV P w K Z β b y) : flatV x = true ∧ eqV x y = pyeq a b := by
  cases a <;> simp [flat] at fa <;> cases b <;> simp [flat] at fb <;> simp only [RepV] at ra rb <;> subst ra rb <;> refine ⟨rfl, ?_⟩ <;> simp [eqV, pyeq] <;> first | rfl | exact tx_beq _ _
end VI

/-! VIb3: the operators by values. -/
namespace VI
open PySem PySem.Spec PyProof.Rows L2
/-- what is wanted of the datum d and the store U' -/
def Done (P : Program) (w : World) (K : PySem.W.Frag) (mg : Str → Option Value) (Φ : List (Addr × HO)) (Z : Hp) (β : List Addr) (d : D) (U' : Store) (Q : VK) : Prop :=
  ∀ (Z' : Hp) (β' : List Addr) (H' : Hp) (v : V), ZLe Z Z' → BLe β β' → Rel P w K mg Φ Z' β' U' H' → RepV P w K Z' β' d v → Q v H'
section
variable {P : Program} {w : World} {K : PySem.W.Frag} {mg : Str → Option Value} {Φ : List (Addr × HO)} {Z Z' : Hp} {β β' : List Addr} {U U' : Store} {H : Hp} {d : D} {Q : VK}
theorem Done.mono (h : Done P w K mg Φ Z β d U' Q) (z : ZLe Z Z') (b : BLe β β') : Done P w K mg Φ Z' β' d U' Q := fun Z2 β2 H2 v z2 b2 R r => h Z2 β2 H2 v (z.trans z2) (b.trans b2) R r
theorem Done.same {v : V} (h : Done P w K mg Φ Z β d U Q) (R : Rel P w K mg Φ Z β U H) (r : RepV P w K Z β d v) : Q v H := h Z β H v (ZLe.refl Z) (BLe.refl β) R r
theorem Done.scal {v : V} (h : Done P w K mg Φ Z β d U Q) (R : Rel P w K mg Φ Z β U H) (r : RepV P w K Z β d v) : Q v H := h.same R r
theorem Done.int {i : Int} (h : Done P w K mg Φ Z β (.int i) U Q) (R : Rel P w K mg Φ Z β U H) : Q (.int i) H := h.same R (by simp only [RepV])
theorem Done.bl {i : Bool} (h : Done P w K mg Φ Z β (.bl i) U Q) (R : Rel P w K mg Φ Z β U H) : Q (.bl i) H := h.same R (by simp only [RepV])
theorem Done.non (h : Done P w K mg Φ Z β .non U Q) (R : Rel P w K mg Φ Z β U H) : Q .non H := h.same R (by simp only [RepV])
theorem Done.str {x : Tx} (h : Done P w K mg Φ Z β (.str x) U Q) (R : Rel P w K mg Φ Z β U H) : Q (.str ⟨x.toArray⟩) H := h.same R (by simp only [RepV])
theorem Done.lst {m : Bool} {xs : List D} {vs : List V} (h : Done P w K mg Φ Z β d U' Q) (R : Rel P w K mg Φ Z β U H) (e : mkL m xs U = some (.ok d U')) (r : RepL P w K Z β xs vs) {p : Addr} (hp : H p = none) : Q (.ref p) (L2.upd H p (.lst vs)) := by
  obtain ⟨Z', β', z, b, R', r'⟩ := R.mkL e r hp
  exact h Z' β' _ _ z b R' r'
theorem Done.tup {xs : List D} {vs : List V} (h : Done P w K mg Φ Z β (.tup xs) U Q) (R : Rel P w K mg Φ Z β U H) (r : RepL P w K Z β xs vs) {p : Addr} (hp : H p = none) : Q (.ref p) (L2.upd H p (.tup vs)) := by
  obtain ⟨Z', z, R', r'⟩ := R.mkT r hp
  exact h Z' β _ _ z (BLe.refl β) R' r'
end
/-- a two-place operation of VIa's, by values -/
def r2 (P : Program) (w : World) (K : PySem.W.Frag) (mg : Str → Option Value) (f : D → D → M D) : R2 := fun x y H Q => ∃ Φ Z β U a b d U', Rel P w K mg Φ Z β U H ∧ RepV P w K Z β a x ∧ RepV P w K Z β b y ∧ f a b U = some (.ok d U') ∧ Done P w K mg Φ Z β d U' Q
theorem OpR.imp {X : Cx} {f : Value → Value → Sem Value} {r r' : R2} (h : OpR X f r) (i : ∀ x y H Q, r' x y H Q → r x y H Q) : OpR X f r' := fun pins s σ H x y v u Q I rx ry q => h pins s σ H x y v u Q I rx ry (i x y H Q q)
theorem CallR.imp {X : Cx} {f : Value} {r r' : List V → Hp → VK → Prop} (h : CallR X f r) (i : ∀ xs H Q, r' xs H Q → r xs H Q) : CallR X f r' := fun pins s σ H xs us Q I rx q => h pins s σ H xs us Q I rx (i xs H Q q)
theorem MtR.imp {X : Cx} {id : String} {r r' : V → List V → Hp → VK → Prop} (h : MtR X id r) (i : ∀ x xs H Q, r' x xs H Q → r x xs H Q) : MtR X id r' := fun pins s σ H x xs v us Q I rx rxs q => h pins s σ H x xs v us Q I rx rxs (i x xs H Q q)
theorem bits_eq (i : Int) : Builtin.Int.intBits i = bits i := by
  unfold Builtin.Int.intBits bits
  by_cases h : i = 0
  · subst h
    rfl
  · rw [if_neg (by simpa using h), if_neg h]
theorem mulOk_ok {i j : Int} (h : mulOk i j = true) : IntMulOk i j := by
  unfold mulOk at h
  simp only [Bool.or_eq_true, decide_eq_true_eq] at h
  rw [← bits_eq, ← bits_eq] at h
  have e : bitsLine = 134217728 := by decide
  rcases h with (h | h) | h
  · exact .of_left h
  · exact .of_right h
  · unfold IntMulOk
    intro z
    rw [Bool.and_eq_true] at z
    have z2 := z.2
    unfold Builtin.Int.intTooBig at z2
    have z3 := of_decide_eq_true z2
    rw [e] at z3
    omega
section
variable {X : Cx}
/-- xs + ys, lists of any kind -/
def rCatL (K : PySem.W.Frag) : R2 := fun x y H Q => ∃ l b xs zs, x = .ref l ∧ y = .ref b ∧ SqL K H l xs ∧ SqL K H b zs ∧ xs.length + zs.length ≤ sizeLine ∧ ∀ p, H p = none → Q (.ref p) (L2.upd H p (.lst (xs ++ zs)))
theorem op_catL : OpR X (binaryOp .Add) (rCatL X.K) := by
  intro pins s σ H x y v u Q I rx ry h
  obtain ⟨l, b, xs, zs, rfl, rfl, hH, hB, hz, q⟩ := h
  cases rx
  cases ry
  obtain ⟨its, r, ⟨⟨cls, dd, data, sl⟩, n, ho, hc, hdd, hd⟩, hl⟩ := I.list hH
  obtain ⟨its2, r2, ⟨⟨cls2, dd2, data2, sl2⟩, n2, ho2, hc2, hdd2, hd2⟩, hl2⟩ := I.list hB
  simp only at hc hd hc2 hd2
  subst hc hd hc2 hd2
  have e1 := r.length
  have e2 := r2.length
  refine concat_meets ⟨_, ho, rfl⟩ ⟨_, ho2, rfl⟩ noFill_list_add seq_list_add PySem.F.slot_list_add PySem.F.entry_list_add (PySem.F.args_list_add_2 _ _) (list_addW l b its.toArray its2.toArray n n2 dd dd2 sl sl2 (by rw [List.size_toArray, List.size_toArray]; omega)) ⟨ho, ho2, ?_⟩
  have ea : its.toArray ++ its2.toArray = (its ++ its2).toArray := by simp
  rw [ea]
  exact ⟨.ref _, _, I.lnew (t' := s.toks) (r.append r2) (by rw [List.length_append]; omega), rfl, q _ I.fresh⟩
theorem repl_foldl (x : Tx) (n : Nat) : ((List.replicate n x.toArray).foldl (· ++ ·) #[]) = (List.replicate n x).flatten.toArray := by
  have h : ∀ (n : Nat) (acc : Array Nat), (List.replicate n x.toArray).foldl (· ++ ·) acc = acc ++ (List.replicate n x).flatten.toArray := by
    intro n
    induction n with
    | zero => intro acc; simp
    | succ n ih =>
      intro acc
      rw [List.replicate_succ, List.foldl_cons, ih, List.replicate_succ, List.flatten_cons]
      simp
  rw [h]
  simp
theorem sum_repl (n k : Nat) : (List.replicate n k).sum = n * k := by
  induction n with
  | zero => simp
  | succ n ih => rw [List.replicate_succ, List.sum_cons, ih, Nat.succ_mul, Nat.add_comm]
/-- text * int -/
theorem op_mulS : OpR X (binaryOp .Mult) (fun x y H Q => ∃ (z : Tx) (k : Int), x = .str ⟨z.toArray⟩ ∧ y = .int k ∧ -1000000 ≤ k ∧ k ≤ 1000000 ∧ z.length * k.toNat ≤ sizeLine ∧ Q (.str ⟨(List.replicate k.toNat z).flatten.toArray⟩) H) := by
  intro pins s σ H x y v u Q I rx ry h
  obtain ⟨z, k, rfl, rfl, h1, h2, hz, q⟩ := h
  obtain ⟨t, rfl⟩ := rx
  obtain ⟨t', rfl⟩ := ry
  have e : (⟨z.toArray⟩ : Str).length = z.length := by simp [Str.length]
  refine PySem.P.mul_str (by simp; omega) (fun h1 h2 => ?_) (fun h1 h2 => ?_) ?_
  · rw [e]
    have a : (z.length : Int) ≤ 16777216 := by
      have b : z.length * 1 ≤ z.length * k.toNat := Nat.mul_le_mul_left _ (by omega)
      rw [sizeLine_eq] at hz
      omega
    have b : (16777216 : Int) ≤ (2 ^ 63 - 1) / k := by
      rw [Int.le_ediv_iff_mul_le (by omega)]
      omega
    omega
  · rw [e]
    unfold Builtin.Str.tooLong
    simp only [decide_eq_false_iff_not]
    omega
  · by_cases hk : k < 1
    · rw [if_pos hk]
      refine ⟨by decide, ?_⟩
      have ek : k.toNat = 0 := by omega
      rw [ek] at q
      exact ⟨.str Str.empty, H, I.tok _, ⟨_, rfl⟩, by simpa [Str.empty] using q⟩
    · rw [if_neg hk]
      by_cases hq : (k == 1 || (⟨z.toArray⟩ : Str).length == 0) = true
      · rw [if_pos hq]
        have eq : (List.replicate k.toNat z).flatten = z := by
          rw [e] at hq
          simp only [Bool.or_eq_true, beq_iff_eq] at hq
          rcases hq with hq | hq
          · subst hq
            simp
          · have : z = [] := List.length_eq_zero_iff.mp hq
            subst this
            simp
        rw [eq] at q
        exact ⟨.str ⟨z.toArray⟩, H, I, ⟨_, rfl⟩, q⟩
      · rw [if_neg hq]
        refine ⟨?_, ?_⟩
        · rw [repl_foldl]
          unfold Str.length
          simp only [List.size_toArray, List.length_flatten, List.map_replicate]
          rw [sum_repl, Nat.mul_comm]
          exact hz
        · rw [repl_foldl]
          exact ⟨.str _, H, I.tok _, ⟨_, rfl⟩, q⟩

theorem str_app (x y : Tx) : ((⟨x.toArray⟩ : Str) ++ (⟨y.toArray⟩ : Str)) = (⟨(x ++ y).toArray⟩ : Str) := by
  show (⟨x.toArray ++ y.toArray⟩ : Str) = _
  simp
theorem str_len (x : Tx) : (⟨x.toArray⟩ : Str).length = x.length := by simp [Str.length]
theorem ok_inj {α : Type} {a b : α} {U V : Store} (h : (some (VI.R.ok a U) : Option (VI.R α)) = some (VI.R.ok b V)) : a = b ∧ U = V := by
  simpa using h
theorem asL_not {U : Store} {d : D} {xs : List D} (h : asL U d = some xs) : (∃ ys, d = .lst ys) ∨ ∃ n, d = .ref n := by
  cases d <;> simp [asL] at h
  · exact .inl ⟨_, rfl⟩
  · exact .inr ⟨_, rfl⟩
theorem add_lists {m : Bool} {P : Program} {w : World} {K : PySem.W.Frag} {mg : Str → Option Value} {Φ : List (Addr × HO)} {Z : Hp} {β : List Addr} {U U' : Store} {H : Hp} {a b d : D} {x y : V} {Q : VK} (R : Rel P w K mg Φ Z β U H) (ra : RepV P w K Z β a x) (rb : RepV P w K Z β b y)
    (e : (match asL U a, asL U b with
    | some xs, some ys => if xs.length + ys.length ≤ SZ then mkL m (xs ++ ys) U else none
    | _, _ => none) = some (.ok d U')) (dn : Done P w K mg Φ Z β d U' Q) : rCatL K x y H Q := by
  split at e
  · rename_i xs ys h1 h2
    split at e
    · rename_i hz
      obtain ⟨l, vs, rfl, s1, q1⟩ := R.list h1 ra
      obtain ⟨b', ws, rfl, s2, q2⟩ := R.list h2 rb
      refine ⟨l, b', vs, ws, rfl, rfl, s1, s2, ?_, fun p hp => ?_⟩
      · rw [← q1.length, ← q2.length, ← SZ_eq]
        exact hz
      · exact dn.lst R e (q1.append q2) hp
    · cases e
  · cases e
theorem or_add (m : Bool) : OpR X (binaryOp .Add) (r2 X.prog X.w X.K X.mg (binop .add m)) := by
  refine OpR.imp (op_add.or (op_add_str.or (op_catA.or op_catL))) ?_
  rintro x y H Q ⟨Φ, Z, β, U, a, b, d, U', R, ra, rb, e, dn⟩
  change addOp m a b U = some (.ok d U') at e
  unfold addOp at e
  split at e
  · obtain ⟨rfl, rfl⟩ := ok_inj e
    simp only [RepV] at ra rb
    exact .inl ⟨_, _, ra, rb, dn.int R⟩
  · split at e
    · obtain ⟨rfl, rfl⟩ := ok_inj e
      simp only [RepV] at ra rb
      refine .inr (.inl ⟨_, _, ra, rb, by rw [str_len, str_len, ← SZ_eq]; assumption, ?_⟩)
      rw [str_app]
      exact dn.str R
    · cases e
  · split at e
    · obtain ⟨rfl, rfl⟩ := ok_inj e
      rename_i hz
      obtain ⟨t1, vs, rfl, s1, q1⟩ := R.tuple ra
      obtain ⟨t2, ws, rfl, s2, q2⟩ := R.tuple rb
      refine .inr (.inr (.inl ⟨t1, t2, vs, ws, rfl, rfl, s1, s2, ?_, fun h0 => ?_, fun h1 h0 => ?_, fun h1 h0 p hp => ?_⟩))
      · rw [← q1.length, ← q2.length, ← SZ_eq]
        exact hz
      · have := q1.length
        rw [h0] at this
        have e0 := List.length_eq_zero_iff.mp (this.trans rfl)
        subst e0
        exact dn.same R rb
      · have := q2.length
        rw [h0] at this
        have e0 := List.length_eq_zero_iff.mp (this.trans rfl)
        subst e0
        rw [List.append_nil] at dn
        exact dn.same R ra
      · exact dn.tup R (q1.append q2) hp
    · cases e
  · exact .inr (.inr (.inr (add_lists R ra rb e dn)))
theorem or_sub (m : Bool) : OpR X (binaryOp .Sub) (r2 X.prog X.w X.K X.mg (binop .sub m)) := by
  refine OpR.imp op_sub ?_
  rintro x y H Q ⟨Φ, Z, β, U, a, b, d, U', R, ra, rb, e, dn⟩
  simp only [binop] at e
  split at e
  · obtain ⟨rfl, rfl⟩ := ok_inj e
    simp only [RepV] at ra rb
    exact ⟨_, _, ra, rb, dn.int R⟩
  · cases e
theorem op_mulB : OpR X (binaryOp .Mult) (rI (fun i j => mulOk i j = true) fun i j => .int (i * j)) := opI fun _ _ _ _ _ _ _ hc q => mul_int q (mulOk_ok hc)
/-- xs * k -/
def rRepL (K : PySem.W.Frag) : R2 := fun x y H Q => ∃ l k xs, x = .ref l ∧ y = .int k ∧ H l = some (.lst xs) ∧ -(2 ^ 63) ≤ k ∧ k < 2 ^ 63 ∧ xs.length * k.toNat ≤ sizeLine ∧
  ∀ p, H p = none → Q (.ref p) (L2.upd H p (.lst (List.replicate k.toNat xs).flatten))
theorem RepL.repl {P : Program} {w : World} {K : PySem.W.Frag} {Z : Hp} {β : List Addr} {xs : List D} {vs : List V} (h : RepL P w K Z β xs vs) : ∀ n, RepL P w K Z β (List.replicate n xs).flatten (List.replicate n vs).flatten
  | 0 => by simpa using RepL.nil
  | n + 1 => by
    rw [List.replicate_succ, List.flatten_cons, List.replicate_succ, List.flatten_cons]
    exact h.append (RepL.repl h n)
theorem or_mul (m : Bool) : OpR X (binaryOp .Mult) (r2 X.prog X.w X.K X.mg (fun a b U => match a, b with | .int i, .int j => mulOp m (.int i) (.int j) U | .str x, .int k => mulOp m (.str x) (.int k) U | _, _ => none)) := by
  refine OpR.imp (op_mulB.or op_mulS) ?_
  rintro x y H Q ⟨Φ, Z, β, U, a, b, d, U', R, ra, rb, e, dn⟩
  simp only at e
  split at e
  · simp only [mulOp] at e
    split at e
    · obtain ⟨rfl, rfl⟩ := ok_inj e
      simp only [RepV] at ra rb
      exact .inl ⟨_, _, ra, rb, by assumption, dn.int R⟩
    · cases e
  · simp only [mulOp] at e
    split at e
    · obtain ⟨rfl, rfl⟩ := ok_inj e
      rename_i hz
      simp only [RepV] at ra rb
      exact .inr ⟨_, _, ra, rb, hz.1, hz.2.1, by rw [← SZ_eq]; exact hz.2.2, dn.str R⟩
    · cases e
  · cases e
theorem or_fdiv (m : Bool) : OpR X (binaryOp .FloorDiv) (r2 X.prog X.w X.K X.mg (binop .fdiv m)) := by
  refine OpR.imp op_fdivW ?_
  rintro x y H Q ⟨Φ, Z, β, U, a, b, d, U', R, ra, rb, e, dn⟩
  simp only [binop] at e
  split at e
  · split at e
    · obtain ⟨rfl, rfl⟩ := ok_inj e
      rename_i hd
      simp only [divOk, Bool.and_eq_true, decide_eq_true_eq] at hd
      simp only [RepV] at ra rb
      exact ⟨_, _, ra, rb, hd, dn.int R⟩
    · cases e
  · cases e
theorem or_mod (m : Bool) : OpR X (binaryOp .Mod) (r2 X.prog X.w X.K X.mg (binop .mod m)) := by
  refine OpR.imp op_mod ?_
  rintro x y H Q ⟨Φ, Z, β, U, a, b, d, U', R, ra, rb, e, dn⟩
  simp only [binop] at e
  split at e
  · split at e
    · obtain ⟨rfl, rfl⟩ := ok_inj e
      simp only [RepV] at ra rb
      exact ⟨_, _, ra, rb, by assumption, dn.int R⟩
    · cases e
  · cases e
theorem or_pow (m : Bool) : OpR X (binaryOp .Pow) (r2 X.prog X.w X.K X.mg (binop .pow m)) := by
  refine OpR.imp op_pow ?_
  rintro x y H Q ⟨Φ, Z, β, U, a, b, d, U', R, ra, rb, e, dn⟩
  simp only [binop] at e
  split at e
  · split at e
    · obtain ⟨rfl, rfl⟩ := ok_inj e
      rename_i hz
      simp only [RepV] at ra rb
      refine ⟨_, _, ra, rb, ⟨hz.1, by omega, ?_⟩, dn.int R⟩
      have : (2 : Nat) ^ 64 = 18446744073709551616 := by decide
      omega
    · cases e
  · cases e
/-! ### comparisons -/
/-- a comparison of VIa's -/
def rc (P : Program) (w : World) (K : PySem.W.Frag) (mg : Str → Option Value) (op : COp) : R2 := fun x y H Q => ∃ Φ Z β U a b k, Rel P w K mg Φ Z β U H ∧ RepV P w K Z β a x ∧ RepV P w K Z β b y ∧ cmpop op U a b = some k ∧ Q (.bl k) H
theorem tx_eq (x y : Tx) : decide ((⟨x.toArray⟩ : Str) = ⟨y.toArray⟩) = decide (x = y) := by
  rw [Bool.eq_iff_iff]
  simp
theorem scal_rep {P : Program} {w : World} {K : PySem.W.Frag} {Z : Hp} {β : List Addr} {a b : D} {x y : V} (h : scalS a b = true) (ra : RepV P w K Z β a x) (rb : RepV P w K Z β b y) : scal x y = true ∧ decide (x = y) = pyeq a b := by
  cases a <;> cases b <;> simp [scalS] at h <;> simp only [RepV] at ra rb <;> subst ra rb <;> refine ⟨rfl, ?_⟩ <;> simp [pyeq]
theorem eqv_rep {P : Program} {w : World} {K : PySem.W.Frag} {mg : Str → Option Value} {Φ : List (Addr × HO)} {Z : Hp} {β : List Addr} {U : Store} {H : Hp} {a b : D} {x y : V} {k : Bool} (R : Rel P w K mg Φ Z β U H) (ra : RepV P w K Z β a x) (rb : RepV P w K Z β b y) (e : eqv U a b = some k) :
    (scal x y = true ∧ decide (x = y) = k) ∨ ∃ d e, Dp K H x d ∧ Dp K H y e ∧ SeqAt.shaped d = true ∧ SeqAt.shaped e = true ∧ PyData.eqv d e = k := by
  unfold eqv at e
  split at e
  · rename_i hs
    cases e
    exact .inl (scal_rep hs ra rb)
  · split at e
    · rename_i x' y' h1 h2
      split at e
      · rename_i hp
        simp only [Bool.and_eq_true] at hp
        cases e
        exact .inr ⟨_, _, dp_of hp.1 (snap_rep R h1 ra), dp_of hp.2 (snap_rep R h2 rb), shaped_toP hp.1, shaped_toP hp.2, eqv_toP _ _ 40 40 hp.1 hp.2⟩
      · cases e
    · cases e
theorem or_eq (hu : X.A.units + 64 < cLine) : OpR X (compareOp .Eq) (rc X.prog X.w X.K X.mg .eq) := by
  refine OpR.imp (op_eq.or (op_eqD hu)) ?_
  rintro x y H Q ⟨Φ, Z, β, U, a, b, k, R, ra, rb, e, q⟩
  rcases eqv_rep R ra rb e with ⟨h1, h2⟩ | ⟨d, e, h1, h2, h3, h4, h5⟩
  · exact .inl ⟨h1, by rw [h2]; exact q⟩
  · exact .inr ⟨d, e, h1, h2, h3, h4, by rw [h5]; exact q⟩
theorem or_ne (hu : X.A.units + 64 < cLine) : OpR X (compareOp .NotEq) (rc X.prog X.w X.K X.mg .ne) := by
  refine OpR.imp (op_ne.or (op_neD hu)) ?_
  rintro x y H Q ⟨Φ, Z, β, U, a, b, k, R, ra, rb, e, q⟩
  simp only [cmpop, Option.map_eq_some_iff] at e
  obtain ⟨k, e, rfl⟩ := e
  rcases eqv_rep R ra rb e with ⟨h1, h2⟩ | ⟨d, e, h1, h2, h3, h4, h5⟩
  · exact .inl ⟨h1, by rw [h2]; exact q⟩
  · exact .inr ⟨d, e, h1, h2, h3, h4, by rw [h5]; exact q⟩
end
end VI

/-! VIb4: dicts; in, is, order; truth, items, slices, by values. -/
namespace VI
open PySem PySem.Spec PyProof.Rows L2
/-! ### dicts -/
theorem kV_of {k : D} {kk : Key} {Z : Hp} {β : List Addr} {P : Program} {w : World} {K : PySem.W.Frag} {v : V} (h : keyD k = some kk) (r : RepV P w K Z β k v) : v = kV kk := by
  cases k <;> simp [keyD] at h <;> subst h <;> simp only [RepV] at r <;> exact r
theorem look_K {P : Program} {w : World} {K : PySem.W.Frag} {Z : Hp} {β : List Addr} {k : D} {kk : Key} (h : keyD k = some kk) : ∀ {kvs : List (D × D)} {l : List (Key × V)}, RepK P w K Z β kvs l →
    (lookD kvs k = none ∧ valV l kk = none) ∨ ∃ x v, lookD kvs k = some x ∧ valV l kk = some v ∧ RepV P w K Z β x v
  | [], l, r => by
    simp only [RepK] at r
    subst r
    exact .inl ⟨rfl, rfl⟩
  | (j, x) :: t, l, r => by
    simp only [RepK] at r
    obtain ⟨jj, v, s, rfl, r0, r1, r2⟩ := r
    by_cases e : j = k
    · subst e
      have : jj = kk := by
        rw [h] at r0
        exact (Option.some.inj r0).symm
      subst this
      exact .inr ⟨x, v, by simp [lookD], valV_pos rfl, r1⟩
    · have : ¬ jj = kk := fun q => e (keyD_inj (q ▸ r0) h)
      rw [valV_neg (p := (jj, v)) this]
      simp only [lookD, if_neg e]
      exact look_K h r2
theorem atKey_pos {k : NestedKey} {b : Addr} {u : Value} {r : List (NestedKey × Addr × Value)} : atKey ((k, b, u) :: r) k = some (b, u) := by simp [atKey]
theorem atKey_neg {j k : NestedKey} {b : Addr} {u : Value} {r : List (NestedKey × Addr × Value)} (h : ¬ j = k) : atKey ((j, b, u) :: r) k = atKey r k := by simp [atKey, List.find?_cons, h]
theorem look_T {P : Program} {w : World} {K : PySem.W.Frag} {Z : Hp} {β : List Addr} {k : D} (h : keyFor 1 k = true) : ∀ {kvs : List (D × D)} {l : List (NestedKey × Addr × Value)}, RepT P w K Z β kvs l →
    (lookD kvs k = none ∧ atKey l (nk k) = none) ∨ ∃ x v b u, lookD kvs k = some x ∧ atKey l (nk k) = some (b, u) ∧ RelV v u ∧ RepV P w K Z β x v
  | [], l, r => by
    simp only [RepT] at r
    subst r
    exact .inl ⟨rfl, rfl⟩
  | (j, x) :: t, l, r => by
    simp only [RepT] at r
    obtain ⟨b, u, v, s, rfl, hk, rk, ru, r1, r2⟩ := r
    by_cases e : j = k
    · subst e
      exact .inr ⟨x, v, b, u, by simp [lookD], atKey_pos, ru, r1⟩
    · rw [atKey_neg (fun q => e (nk_inj hk h q))]
      simp only [lookD, if_neg e]
      exact look_T h r2
section
variable {X : Cx} {pins : List (Addr × Obj)} {σ : L2.St} {Z : Hp} {β : List Addr} {U : Store} {H : Hp} {s : Shared} {mg : Str → Option Value} {Φ : List (Addr × HO)}
theorem flat_nested {k : D} {v : V} {u : Value} {h : Heap} (hf : flatK k = true) (r : RepV X.prog X.w X.K Z β k v) (ru : RelV v u) : NestedIs h (nk k) u := by
  cases k <;> simp [flatK] at hf <;> simp only [RepV] at r <;> subst r
  · obtain ⟨t, rfl⟩ := ru
    simp only [nk]
    exact .int _ _
  · obtain ⟨t, rfl⟩ := ru
    simp only [nk]
    exact .text _ _
theorem flats_nested {h : Heap} : ∀ {ks : List D} {vs : List V} {us : List Value}, ks.all flatK = true → RepL X.prog X.w X.K Z β ks vs → Vals vs us → NestedAll h (nkL ks) us
  | [], vs, us, _, r, rv => by
    simp only [RepL] at r
    subst r
    cases rv
    simp only [nkL]
    exact .nil
  | x :: t, vs, us, hf, r, rv => by
    simp only [RepL] at r
    obtain ⟨v, s', rfl, r1, r2⟩ := r
    simp only [List.all_cons, Bool.and_eq_true] at hf
    cases rv with
    | cons q1 q2 =>
      simp only [nkL]
      exact .cons (flat_nested hf.1 r1 q1) (flats_nested hf.2 r2 q2)
theorem tup_nested (R : Rel X.prog X.w X.K mg Φ Z β U H) (I : Inv X pins σ H s) {k : D} {v : V} {u : Value} (hk : tupK k = true) (r : RepV X.prog X.w X.K Z β k v) (ru : RelV v u) : NestedIs s.heap (nk k) u := by
  obtain ⟨ks, rfl, hf⟩ := tupK_shape hk
  simp only [RepV] at r
  obtain ⟨a, vs, rfl, st, q⟩ := r
  cases ru
  obtain ⟨its, rv, ⟨o, ho, hc, n, hd⟩, _⟩ := I.tuple (SqT.le R.zle st)
  simp only [nk]
  exact .tup ho hc hd (flats_nested hf q (by simpa using rv))
theorem key_nested (R : Rel X.prog X.w X.K mg Φ Z β U H) (I : Inv X pins σ H s) {k : D} {v : V} {u : Value} (hk : keyFor 1 k = true) (r : RepV X.prog X.w X.K Z β k v) (ru : RelV v u) : NestedIs s.heap (nk k) u := by
  simp only [keyFor, Bool.or_eq_true] at hk
  rcases hk with hk | hk
  · exact tup_nested R I hk r ru
  · obtain ⟨x, y, rfl, h1, h2⟩ := pairK_shape hk
    simp only [RepV, RepL] at r
    obtain ⟨a, vs, rfl, st, v1, s1, rfl, r1, v2, s2, rfl, r2, rfl⟩ := r
    cases ru
    obtain ⟨its, rv, ⟨o, ho, hc, n, hd⟩, _⟩ := I.tuple (SqT.le R.zle st)
    cases rv with
    | cons q1 q2 =>
      cases q2 with
      | cons q2 q3 =>
        cases q3
        simp only [nk, nkL]
        exact .tup ho hc hd (by simpa using NestedAll.cons (tup_nested R I h1 (by simpa only [RepV] using r1) q1) (.cons (tup_nested R I h2 (by simpa only [RepV] using r2) q2) .nil))
theorem key_is (R : Rel X.prog X.w X.K mg Φ Z β U H) (I : Inv X pins σ H s) {k : D} {b : Addr} (hk : keyFor 1 k = true) (r : RepV X.prog X.w X.K Z β k (.ref b)) : (nestedKind X.prog X.w).is s.heap (nk k) b :=
  ⟨key_nested R I hk r rfl, key1_depth hk⟩
theorem key1_ref {k : D} {v : V} (hk : keyFor 1 k = true) (r : RepV X.prog X.w X.K Z β k v) : ∃ b, v = .ref b := by
  simp only [keyFor, Bool.or_eq_true] at hk
  rcases hk with hk | hk
  · obtain ⟨ks, rfl, _⟩ := tupK_shape hk
    simp only [RepV] at r
    obtain ⟨a, vs, rfl, _⟩ := r
    exact ⟨a, rfl⟩
  · obtain ⟨x, y, rfl, h1, h2⟩ := pairK_shape hk
    simp only [RepV] at r
    obtain ⟨a, vs, rfl, _⟩ := r
    exact ⟨a, rfl⟩
theorem keys_are (R : Rel X.prog X.w X.K mg Φ Z β U H) (I : Inv X pins σ H s) : ∀ {kvs : List (D × D)} {l : List (NestedKey × Addr × Value)}, RepT X.prog X.w X.K Z β kvs l → ∀ x ∈ l, (nestedKind X.prog X.w).is s.heap x.1 x.2.1
  | [], l, r => by
    simp only [RepT] at r
    subst r
    intro x hx
    cases hx
  | (j, x) :: t, l, r => by
    simp only [RepT] at r
    obtain ⟨b, u, v, s', rfl, hk, rk, ru, r1, r2⟩ := r
    intro y hy
    rcases List.mem_cons.mp hy with q | hy
    · subst q
      exact key_is R I hk rk
    · exact keys_are R I r2 y hy
theorem dn_heap (R : Rel X.prog X.w X.K mg Φ Z β U H) (I : Inv X pins σ H s) {a : Addr} {l : List (NestedKey × Addr × Value)} {kvs : List (D × D)} (e : Rd H a (dN X.prog X.w a l)) (nd : (l.map (·.1)).Nodup) (r : RepT X.prog X.w X.K Z β kvs l) :
    (a == sysModules) = false ∧ l.length ≤ sizeLine ∧ s.heap.DictOfH (nestedKind X.prog X.w) a l := by
  have q : ObjOk X.prog X.w H s.heap a (dN X.prog X.w a l) := by
    rcases e with e | ⟨o, e⟩
    · exact I.hok a _ e
    · exact (I.hok a _ e).2
  obtain ⟨⟨h1, h2, o, es, ep, ho, hx, hd, he⟩, _, _⟩ := q
  exact ⟨h1, h2, o, es, ep, ho, hx, hd, he, keys_are R I r, nd⟩
theorem nroom {A : Around} (hu : A.units + 64 < cLine) : (nestedKind X.prog X.w).room A.in1 := by
  show A.units + 1 + 8 < cLine
  omega
/-- a dict, frozen or in the store -/
theorem Rel.dict {P : Program} {w : World} {K : PySem.W.Frag} (R : Rel P w K mg Φ Z β U H) {d : D} {t : Nat} {kvs : List (D × D)} {v : V} (h : asD U d = some (t, kvs)) (r : RepV P w K Z β d v) :
    ∃ a, v = .ref a ∧ ((t = 0 ∧ ∃ l, H a = some (.dK l) ∧ RepK P w K Z β kvs l) ∨ (t = 1 ∧ ∃ l, Rd H a (dN P w a l) ∧ (l.map (·.1)).Nodup ∧ RepT P w K Z β kvs l)) := by
  cases d <;> simp only [asD, reduceCtorEq] at h
  · cases h
    simp only [RepV] at r
    obtain ⟨a, e, q⟩ := r
    refine ⟨a, e, ?_⟩
    rcases q with ⟨h0, l, h1, h2⟩ | ⟨h0, l, h1, h2⟩
    · exact .inl ⟨h0, l, R.zle _ _ h1, h2⟩
    · exact .inr ⟨h0, l, Rd.le R.zle h1, h2⟩
  · simp only [RepV] at r
    obtain ⟨a, e, hb⟩ := r
    split at h <;> simp only [Option.some.injEq, reduceCtorEq, Prod.mk.injEq] at h
    obtain ⟨rfl, rfl⟩ := h
    rename_i hu
    refine ⟨a, e, ?_⟩
    rcases R.obj _ _ _ hu hb with q | ⟨h0, l, h1, h2⟩
    · exact .inl q
    · exact .inr ⟨h0, l, .inl h1, h2⟩
variable {A : Around} {E : Value → Shared → Prop} {d k : D} {t : Nat} {kvs : List (D × D)} {v y : V} {u r : Value}
theorem vd_in {Q : Value → Shared → Prop} (hu : A.units + 64 < cLine) (R : Rel X.prog X.w X.K mg Φ Z β U H) (I : Inv X pins σ H s) (h : asD U d = some (t, kvs)) (hk : keyFor t k = true) (rd : RepV X.prog X.w X.K Z β d v) (rk : RepV X.prog X.w X.K Z β k y)
    (rv : RelV v r) (ry : RelV y u) (q : ∀ s', Inv X pins σ H s' → Q (.bool (lookD kvs k).isSome) s') : wpAny (model X.prog X.w) A (compareOp .In u r) Q E s := by
  obtain ⟨a, rfl, h⟩ := R.dict h rd
  cases rv
  rcases h with ⟨rfl, l, e, q1⟩ | ⟨rfl, l, e, nd, q1⟩
  · obtain ⟨kk, hkk⟩ := keyD_of_flat (d := k) (by simpa [keyFor] using hk)
    have := kV_of hkk rk
    subst this
    refine d_in (by omega) I (DGet.k e) ry fun s' I' => ?_
    rcases look_K hkk q1 with ⟨h1, h2⟩ | ⟨x, v, h1, h2, _⟩
    · rw [h2]; rw [h1] at q; exact q s' I'
    · rw [h2]; rw [h1] at q; exact q s' I'
  · obtain ⟨b, rfl⟩ := key1_ref hk rk
    cases ry
    obtain ⟨hs, hl, dd⟩ := dn_heap R I e nd q1
    refine wpAny_in_heap (nroom hu) (key_is R I hk rk) hs dd ?_
    rcases look_T hk q1 with ⟨h1, h2⟩ | ⟨x, v, b', u', h1, h2, _⟩
    · rw [h2]; rw [h1] at q; exact q _ (I.tok _)
    · rw [h2]; rw [h1] at q; exact q _ (I.tok _)
theorem vd_notIn {Q : Value → Shared → Prop} (hu : A.units + 64 < cLine) (R : Rel X.prog X.w X.K mg Φ Z β U H) (I : Inv X pins σ H s) (h : asD U d = some (t, kvs)) (hk : keyFor t k = true) (rd : RepV X.prog X.w X.K Z β d v) (rk : RepV X.prog X.w X.K Z β k y)
    (rv : RelV v r) (ry : RelV y u) (q : ∀ s', Inv X pins σ H s' → Q (.bool (!(lookD kvs k).isSome)) s') : wpAny (model X.prog X.w) A (compareOp .NotIn u r) Q E s := by
  obtain ⟨a, rfl, h⟩ := R.dict h rd
  cases rv
  rcases h with ⟨rfl, l, e, q1⟩ | ⟨rfl, l, e, nd, q1⟩
  · obtain ⟨kk, hkk⟩ := keyD_of_flat (d := k) (by simpa [keyFor] using hk)
    have := kV_of hkk rk
    subst this
    refine d_notIn (by omega) I (DGet.k e) ry fun s' I' => ?_
    rcases look_K hkk q1 with ⟨h1, h2⟩ | ⟨x, v, h1, h2, _⟩
    · rw [h2]; rw [h1] at q; exact q s' I'
    · rw [h2]; rw [h1] at q; exact q s' I'
  · obtain ⟨b, rfl⟩ := key1_ref hk rk
    cases ry
    obtain ⟨hs, hl, dd⟩ := dn_heap R I e nd q1
    refine notIn_keyed (nroom hu) (key_is R I hk rk) hs ⟨_, dd, rfl⟩ ?_
    rw [valueAt_pairsH, Option.isSome_map]
    rcases look_T hk q1 with ⟨h1, h2⟩ | ⟨x, v, b', u', h1, h2, _⟩
    · rw [h2]; rw [h1] at q; exact q _ (I.tok _)
    · rw [h2]; rw [h1] at q; exact q _ (I.tok _)
theorem vd_get {x : D} {Q : Value → Shared → Prop} (hu : A.units + 64 < cLine) (R : Rel X.prog X.w X.K mg Φ Z β U H) (I : Inv X pins σ H s) (h : asD U d = some (t, kvs)) (hk : keyFor t k = true) (rd : RepV X.prog X.w X.K Z β d v) (rk : RepV X.prog X.w X.K Z β k y)
    (rv : RelV v r) (ry : RelV y u) (hx : lookD kvs k = some x) (q : ∀ z z' s', Inv X pins σ H s' → RelV z z' → RepV X.prog X.w X.K Z β x z → Q z' s') : wpAny (model X.prog X.w) A (getItem r u) Q E s := by
  obtain ⟨a, rfl, h⟩ := R.dict h rd
  cases rv
  rcases h with ⟨rfl, l, e, q1⟩ | ⟨rfl, l, e, nd, q1⟩
  · obtain ⟨kk, hkk⟩ := keyD_of_flat (d := k) (by simpa [keyFor] using hk)
    have := kV_of hkk rk
    subst this
    rcases look_K hkk q1 with ⟨h1, h2⟩ | ⟨x', v, h1, h2, r1⟩
    · rw [h1] at hx; cases hx
    · rw [h1] at hx
      cases hx
      refine d_getItem (v := v) (by omega) I (by rw [← h2]; exact DGet.k e) ry fun w' s' I' rw' => q v w' s' I' rw' r1
  · obtain ⟨b, rfl⟩ := key1_ref hk rk
    cases ry
    obtain ⟨hs, hl, dd⟩ := dn_heap R I e nd q1
    rcases look_T hk q1 with ⟨h1, h2⟩ | ⟨x', v, b', u', h1, h2, ru, r1⟩
    · rw [h1] at hx; cases hx
    · rw [h1] at hx
      cases hx
      exact wpAny_getItem_heap (nroom hu) (key_is R I hk rk) dd h2 (q v u' _ (I.tok _) ru r1)
/-- d.get(k), d.get(k, x) -/
theorem vd_get1 {Q : Value → Shared → Prop} (hu : A.units + 64 < cLine) (R : Rel X.prog X.w X.K mg Φ Z β U H) (I : Inv X pins σ H s) (h : asD U d = some (t, kvs)) (hk : keyFor t k = true) (rd : RepV X.prog X.w X.K Z β d v) (rk : RepV X.prog X.w X.K Z β k y)
    (rv : RelV v r) (ry : RelV y u) (q : ∀ z z' s', Inv X pins σ H s' → RelV z z' → RepV X.prog X.w X.K Z β ((lookD kvs k).getD .non) z → Q z' s') : wpAny (model X.prog X.w) A (call (.builtin "dict.get") [r, u]) Q E s := by
  obtain ⟨a, rfl, h⟩ := R.dict h rd
  cases rv
  have rn : RepV X.prog X.w X.K Z β .non .non := by simp only [RepV]
  rcases h with ⟨rfl, l, e, q1⟩ | ⟨rfl, l, e, nd, q1⟩
  · obtain ⟨kk, hkk⟩ := keyD_of_flat (d := k) (by simpa [keyFor] using hk)
    have := kV_of hkk rk
    subst this
    refine d_get1 (by omega) I (DGet.k e) ry fun w' s' I' rw' => ?_
    rcases look_K hkk q1 with ⟨h1, h2⟩ | ⟨x', v, h1, h2, r1⟩
    · rw [h2] at rw'
      rw [h1] at q
      exact q _ w' s' I' rw' rn
    · rw [h2] at rw'
      rw [h1] at q
      exact q _ w' s' I' rw' r1
  · obtain ⟨b, rfl⟩ := key1_ref hk rk
    cases ry
    obtain ⟨hs, hl, dd⟩ := dn_heap R I e nd q1
    refine get_keyed (nroom hu) (key_is R I hk rk) hs ⟨_, dd, rfl⟩ ?_
    rw [valueAt_pairsH]
    rcases look_T hk q1 with ⟨h1, h2⟩ | ⟨x', v, b', u', h1, h2, ru, r1⟩
    · rw [h2]
      rw [h1] at q
      exact q .non _ _ (I.tok _) rfl rn
    · rw [h2]
      rw [h1] at q
      exact q v u' _ (I.tok _) ru r1
theorem vd_get2 {x : D} {z₀ : V} {r₀ : Value} {Q : Value → Shared → Prop} (hu : A.units + 64 < cLine) (R : Rel X.prog X.w X.K mg Φ Z β U H) (I : Inv X pins σ H s) (h : asD U d = some (t, kvs)) (hk : keyFor t k = true) (rd : RepV X.prog X.w X.K Z β d v) (rk : RepV X.prog X.w X.K Z β k y)
    (rx : RepV X.prog X.w X.K Z β x z₀) (rv : RelV v r) (ry : RelV y u) (rz : RelV z₀ r₀) (q : ∀ z z' s', Inv X pins σ H s' → RelV z z' → RepV X.prog X.w X.K Z β ((lookD kvs k).getD x) z → Q z' s') : wpAny (model X.prog X.w) A (call (.builtin "dict.get") [r, u, r₀]) Q E s := by
  obtain ⟨a, rfl, h⟩ := R.dict h rd
  cases rv
  rcases h with ⟨rfl, l, e, q1⟩ | ⟨rfl, l, e, nd, q1⟩
  · obtain ⟨kk, hkk⟩ := keyD_of_flat (d := k) (by simpa [keyFor] using hk)
    have := kV_of hkk rk
    subst this
    refine d_get2 (by omega) I (DGet.k e) ry rz fun w' s' I' rw' => ?_
    rcases look_K hkk q1 with ⟨h1, h2⟩ | ⟨x', v, h1, h2, r1⟩
    · rw [h2] at rw'
      rw [h1] at q
      exact q _ w' s' I' rw' rx
    · rw [h2] at rw'
      rw [h1] at q
      exact q _ w' s' I' rw' r1
  · obtain ⟨b, rfl⟩ := key1_ref hk rk
    cases ry
    obtain ⟨hs, hl, dd⟩ := dn_heap R I e nd q1
    refine getOr_keyed (nroom hu) (key_is R I hk rk) hs ⟨_, dd, rfl⟩ ?_
    rw [valueAt_pairsH]
    rcases look_T hk q1 with ⟨h1, h2⟩ | ⟨x', v, b', u', h1, h2, ru, r1⟩
    · rw [h2]
      rw [h1] at q
      exact q z₀ r₀ _ (I.tok _) rz rx
    · rw [h2]
      rw [h1] at q
      exact q v u' _ (I.tok _) ru r1
/-- puts, drops -/
theorem put_K {P : Program} {w : World} {K : PySem.W.Frag} {kk : Key} (h : keyD k = some kk) {x : D} (rx : RepV P w K Z β x v) : ∀ {kvs : List (D × D)} {l : List (Key × V)}, RepK P w K Z β kvs l → (l.map (·.1)).Nodup → RepK P w K Z β (putD kvs k x) (putK l kk v)
  | [], l, q, _ => by
    simp only [RepK] at q
    subst q
    simp only [putD, RepK, putK]
    exact ⟨kk, v, [], rfl, h, rx, rfl⟩
  | (j, y) :: t, l, q, nd => by
    simp only [RepK] at q
    obtain ⟨jj, v1, s', rfl, r0, r1, r2⟩ := q
    simp only [List.map_cons, List.nodup_cons] at nd
    by_cases e : j = k
    · subst e
      have : jj = kk := by
        rw [h] at r0
        exact (Option.some.inj r0).symm
      subst this
      have ep : putK ((jj, v1) :: s') jj v = (jj, v) :: s' := by
        unfold putK
        rw [if_pos (by simp)]
        simp only [List.map_cons, if_true]
        congr 1
        have : ∀ p ∈ s', (if p.1 = jj then (p.1, v) else p) = p := fun p hp => if_neg fun q => nd.1 (List.mem_map.mpr ⟨p, hp, q⟩)
        rw [List.map_congr_left this]
        simp
      rw [ep]
      simp only [putD, if_true, RepK]
      exact ⟨jj, v, s', rfl, r0, rx, r2⟩
    · have hne : ¬ jj = kk := fun q => e (keyD_inj (q ▸ r0) h)
      have ep : putK ((jj, v1) :: s') kk v = (jj, v1) :: putK s' kk v := by
        unfold putK
        simp only [List.any_cons, hne, decide_false, Bool.false_or, List.map_cons, if_neg hne, List.cons_append]
        split <;> rfl
      rw [ep]
      simp only [putD, if_neg e, RepK]
      exact ⟨jj, v1, _, rfl, r0, r1, put_K h rx r2 nd.2⟩
theorem put_T {P : Program} {w : World} {K : PySem.W.Frag} (h : keyFor 1 k = true) {x : D} {b : Addr} (rb : RepV P w K Z β k (.ref b)) (rx : RepV P w K Z β x v) (ru : RelV v u) : ∀ {kvs : List (D × D)} {l : List (NestedKey × Addr × Value)}, RepT P w K Z β kvs l → (l.map (·.1)).Nodup → RepT P w K Z β (putD kvs k x) (storedH l (nk k) b u)
  | [], l, q, _ => by
    simp only [RepT] at q
    subst q
    simp only [putD, RepT]
    exact ⟨b, u, v, [], rfl, h, rb, ru, rx, rfl⟩
  | (j, y) :: t, l, q, nd => by
    simp only [RepT] at q
    obtain ⟨c, u1, v1, s', rfl, hk, rk, r0, r1, r2⟩ := q
    simp only [List.map_cons, List.nodup_cons] at nd
    by_cases e : j = k
    · subst e
      have ep : storedH ((nk j, c, u1) :: s') (nk j) b u = (nk j, c, u) :: s' := by
        unfold storedH
        rw [if_pos (by rw [atKey_pos]; rfl)]
        simp only [List.map_cons, putAt, if_true]
        congr 1
        have : ∀ p ∈ s', putAt (nk j) u p = p := fun p hp => by
          unfold putAt
          exact if_neg fun q => nd.1 (List.mem_map.mpr ⟨p, hp, q⟩)
        rw [List.map_congr_left this]
        simp
      rw [ep]
      simp only [putD, if_true, RepT]
      exact ⟨c, u, v, s', rfl, hk, rk, ru, rx, r2⟩
    · have hne : ¬ nk j = nk k := fun q => e (nk_inj hk h q)
      have ep : storedH ((nk j, c, u1) :: s') (nk k) b u = (nk j, c, u1) :: storedH s' (nk k) b u := by
        unfold storedH
        rw [atKey_neg hne]
        simp only [List.map_cons, putAt, if_neg hne, List.cons_append]
        split <;> rfl
      rw [ep]
      simp only [putD, if_neg e, RepT]
      exact ⟨c, u1, v1, _, rfl, hk, rk, r0, r1, put_T h rb rx ru r2 nd.2⟩
theorem drop_K {P : Program} {w : World} {K : PySem.W.Frag} {kk : Key} (h : keyD k = some kk) : ∀ {kvs : List (D × D)} {l : List (Key × V)}, RepK P w K Z β kvs l → (l.map (·.1)).Nodup → RepK P w K Z β (dropD kvs k) (dropK l kk)
  | [], l, q, _ => by
    simp only [RepK] at q
    subst q
    simp only [dropD, RepK, dropK]
    rfl
  | (j, y) :: t, l, q, nd => by
    simp only [RepK] at q
    obtain ⟨jj, v1, s', rfl, r0, r1, r2⟩ := q
    simp only [List.map_cons, List.nodup_cons] at nd
    by_cases e : j = k
    · subst e
      have : jj = kk := by
        rw [h] at r0
        exact (Option.some.inj r0).symm
      subst this
      have ep : dropK ((jj, v1) :: s') jj = s' := by
        unfold dropK
        rw [List.filter_cons, if_neg (by simp)]
        exact List.filter_eq_self.mpr fun p hp => decide_eq_true fun q => nd.1 (List.mem_map.mpr ⟨p, hp, q⟩)
      rw [ep]
      simp only [dropD, if_true]
      exact r2
    · have hne : ¬ jj = kk := fun q => e (keyD_inj (q ▸ r0) h)
      have ep : dropK ((jj, v1) :: s') kk = (jj, v1) :: dropK s' kk := by
        unfold dropK
        rw [List.filter_cons, if_pos (by simpa using hne)]
      rw [ep]
      simp only [dropD, if_neg e, RepK]
      exact ⟨jj, v1, _, rfl, r0, r1, drop_K h r2 nd.2⟩
theorem drop_T {P : Program} {w : World} {K : PySem.W.Frag} (h : keyFor 1 k = true) : ∀ {kvs : List (D × D)} {l : List (NestedKey × Addr × Value)}, RepT P w K Z β kvs l → (l.map (·.1)).Nodup → RepT P w K Z β (dropD kvs k) (withoutH l (nk k))
  | [], l, q, _ => by
    simp only [RepT] at q
    subst q
    simp only [dropD, RepT, withoutH]
    rfl
  | (j, y) :: t, l, q, nd => by
    simp only [RepT] at q
    obtain ⟨c, u1, v1, s', rfl, hk, rk, r0, r1, r2⟩ := q
    simp only [List.map_cons, List.nodup_cons] at nd
    by_cases e : j = k
    · subst e
      have ep : withoutH ((nk j, c, u1) :: s') (nk j) = s' := by
        unfold withoutH
        rw [List.filter_cons, if_neg (by simp)]
        exact List.filter_eq_self.mpr fun p hp => decide_eq_true fun q => nd.1 (List.mem_map.mpr ⟨p, hp, q⟩)
      rw [ep]
      simp only [dropD, if_true]
      exact r2
    · have hne : ¬ nk j = nk k := fun q => e (nk_inj hk h q)
      have ep : withoutH ((nk j, c, u1) :: s') (nk k) = (nk j, c, u1) :: withoutH s' (nk k) := by
        unfold withoutH
        rw [List.filter_cons, if_pos (by simpa using hne)]
      rw [ep]
      simp only [dropD, if_neg e, RepT]
      exact ⟨c, u1, v1, _, rfl, hk, rk, r0, r1, drop_T h r2 nd.2⟩
theorem nodup_put {l : List (NestedKey × Addr × Value)} {kk : NestedKey} {b : Addr} (nd : (l.map (·.1)).Nodup) : ((storedH l kk b u).map (·.1)).Nodup := by
  have e := congrArg (List.map (·.1)) (pairsH_storedH l kk b u)
  have e1 : (pairsH (storedH l kk b u)).map (·.1) = (storedH l kk b u).map (·.1) := by simp [pairsH, Function.comp_def]
  have e2 : (pairsH l).map (·.1) = l.map (·.1) := by simp [pairsH, Function.comp_def]
  rw [← e1, e, keys_stored, e2]
  split
  · exact nd
  · rename_i hn
    rw [List.nodup_append]
    exact ⟨nd, by simp, fun a ha b hb => by simp only [List.mem_singleton] at hb; subst hb; exact fun q => hn (q ▸ ha)⟩
theorem nodup_drop {l : List (NestedKey × Addr × Value)} {kk : NestedKey} (nd : (l.map (·.1)).Nodup) : ((withoutH l kk).map (·.1)).Nodup := nd.sublist ((List.filter_sublist (l := l)).map _)
theorem storedH_len (l : List (NestedKey × Addr × Value)) (kk : NestedKey) (b : Addr) (u : Value) : (storedH l kk b u).length ≤ l.length + 1 := by
  unfold storedH
  split <;> simp
theorem dn_ok {P : Program} {w : World} {H' : Hp} {h' : Heap} {a : Addr} {l : List (NestedKey × Addr × Value)} (h1 : (a == sysModules) = false) (h2 : l.length ≤ sizeLine) (dd : h'.DictOfH (nestedKind P w) a l) : ObjOk P w H' h' a (dN P w a l) := by
  obtain ⟨o, es, ep, ho, hx, hd, he, _, _⟩ := dd
  refine ⟨⟨h1, h2, o, es, ep, ho, hx, hd, he⟩, ⟨o, ho⟩, ?_⟩
  rintro g1 g2 ⟨_, _, o', es', ep', ho', hx', hd', he'⟩ st
  exact ⟨h1, h2, o', es', ep', st o' ho', hx', hd', he'⟩
theorem dk_nodup (I : Inv X pins σ H s) {a : Addr} {l : List (Key × V)} (e : H a = some (.dK l)) : (l.map (·.1)).Nodup := by
  obtain ⟨_, _, vs, rel, o, es, ep, _, _, _, _, nd⟩ := dk_of I.hok e
  rw [rel.keys]
  exact nd.2
theorem repK_len {P : Program} {w : World} {K : PySem.W.Frag} : ∀ {kvs : List (D × D)} {l : List (Key × V)}, RepK P w K Z β kvs l → kvs.length = l.length
  | [], l, q => by
    simp only [RepK] at q
    subst q
    rfl
  | (j, y) :: t, l, q => by
    simp only [RepK] at q
    obtain ⟨_, _, s', rfl, _, _, r2⟩ := q
    simp [repK_len r2]
theorem repT_len {P : Program} {w : World} {K : PySem.W.Frag} : ∀ {kvs : List (D × D)} {l : List (NestedKey × Addr × Value)}, RepT P w K Z β kvs l → kvs.length = l.length
  | [], l, q => by
    simp only [RepT] at q
    subst q
    rfl
  | (j, y) :: t, l, q => by
    simp only [RepT] at q
    obtain ⟨_, _, _, s', rfl, _, _, _, _, r2⟩ := q
    simp [repT_len r2]
/-- d[k] = x of the store's dict n -/
theorem vs_set {n : Nat} {x : D} {z : V} {r₀ : Value} {Q : Unit → Shared → Prop} (hu : A.units + 64 < cLine) (R : Rel X.prog X.w X.K mg Φ Z β U H) (I : Inv X pins σ H s) (h : U[n]? = some (.dct t kvs)) (hk : keyFor t k = true) (hl : kvs.length < SZ)
    (rd : RepV X.prog X.w X.K Z β (.ref n) v) (rk : RepV X.prog X.w X.K Z β k y) (rx : RepV X.prog X.w X.K Z β x z) (rv : RelV v r) (ry : RelV y u) (rz : RelV z r₀)
    (q : ∀ H' s', Inv X pins σ H' s' → Rel X.prog X.w X.K mg Φ Z β (U.set n (.dct t (putD kvs k x))) H' → Q () s') : wpAny (model X.prog X.w) A (setItem r u r₀) Q E s := by
  simp only [RepV] at rd
  obtain ⟨a, rfl, hb⟩ := rd
  cases rv
  rw [SZ_eq] at hl
  rcases R.obj _ _ _ h hb with ⟨rfl, l, e, q1⟩ | ⟨rfl, l, e, nd, q1⟩
  · obtain ⟨kk, hkk⟩ := keyD_of_flat (d := k) (by simpa [keyFor] using hk)
    have := kV_of hkk rk
    subst this
    refine d_setItem (by omega) I (DPut.k e (by rw [← repK_len q1]; exact hl)) ry rz fun s' I' => q _ s' I' ?_
    exact R.write hb (.inl ⟨rfl, _, L2.upd_same, put_K hkk rx q1 (dk_nodup I e)⟩)
  · obtain ⟨b, rfl⟩ := key1_ref hk rk
    cases ry
    obtain ⟨hs, hl2, dd⟩ := dn_heap R I (.inl e) nd q1
    refine wpAny_setItem_heap (hsz := hl2) (nroom hu) (key_is R I hk rk) dd fun h' dd' sb => ?_
    have hz : (storedH l (nk k) b r₀).length ≤ sizeLine := by
      have := storedH_len l (nk k) b r₀
      have := repT_len q1
      omega
    obtain ⟨ob, es, ep, hq, _⟩ := id dd'
    refine q _ _ (d_write I (by rw [e]; exact True.intro) sb ⟨ob, hq⟩ (dn_ok hs hz dd')) ?_
    exact R.write hb (.inr ⟨rfl, _, L2.upd_same, nodup_put nd, put_T hk rk rx rz q1 nd⟩)
/-- d.setdefault(k, x) -/
theorem vs_setd {n : Nat} {x : D} {z : V} {r₀ : Value} {Q : Value → Shared → Prop} (hu : A.units + 64 < cLine) (R : Rel X.prog X.w X.K mg Φ Z β U H) (I : Inv X pins σ H s) (h : U[n]? = some (.dct t kvs)) (hk : keyFor t k = true) (hl : kvs.length < SZ)
    (rd : RepV X.prog X.w X.K Z β (.ref n) v) (rk : RepV X.prog X.w X.K Z β k y) (rx : RepV X.prog X.w X.K Z β x z) (rv : RelV v r) (ry : RelV y u) (rz : RelV z r₀)
    (q1 : ∀ o, lookD kvs k = some o → ∀ z z' s', Inv X pins σ H s' → RelV z z' → RepV X.prog X.w X.K Z β o z → Q z' s')
    (q2 : lookD kvs k = none → ∀ H' s' z z', Inv X pins σ H' s' → Rel X.prog X.w X.K mg Φ Z β (U.set n (.dct t (putD kvs k x))) H' → RelV z z' → RepV X.prog X.w X.K Z β x z → Q z' s') : wpAny (model X.prog X.w) A (call (.builtin "dict.setdefault") [r, u, r₀]) Q E s := by
  simp only [RepV] at rd
  obtain ⟨a, rfl, hb⟩ := rd
  cases rv
  rw [SZ_eq] at hl
  rcases R.obj _ _ _ h hb with ⟨rfl, l, e, qk⟩ | ⟨rfl, l, e, nd, qk⟩
  · obtain ⟨kk, hkk⟩ := keyD_of_flat (d := k) (by simpa [keyFor] using hk)
    have := kV_of hkk rk
    subst this
    refine d_setd I e ry rz (by rw [← repK_len qk]; exact hl) (fun v hv w' s' I' rw' => ?_) (fun hn w' s' I' rw' => ?_)
    · rcases look_K hkk qk with ⟨h1, h2⟩ | ⟨x', v', h1, h2, r1⟩
      · rw [h2] at hv; cases hv
      · rw [h2] at hv
        cases hv
        exact q1 _ h1 _ _ s' I' rw' r1
    · rcases look_K hkk qk with ⟨h1, h2⟩ | ⟨x', v', h1, h2, r1⟩
      · exact q2 h1 _ s' z w' I' (R.write hb (.inl ⟨rfl, _, L2.upd_same, put_K hkk rx qk (dk_nodup I e)⟩)) rw' rx
      · rw [h2] at hn; cases hn
  · obtain ⟨b, rfl⟩ := key1_ref hk rk
    cases ry
    obtain ⟨hs, hl2, dd⟩ := dn_heap R I (.inl e) nd qk
    refine call_setdefault_heap (hsz := hl2) (nroom hu) (key_is R I hk rk) hs dd (fun p hp => ?_) fun hn h' dd' sb => ?_
    · rcases look_T hk qk with ⟨h1, h2⟩ | ⟨x', v', b', u', h1, h2, ru, r1⟩
      · rw [h2] at hp; cases hp
      · rw [h2] at hp
        cases hp
        exact q1 _ h1 _ _ _ (I.tok _) ru r1
    · rcases look_T hk qk with ⟨h1, h2⟩ | ⟨x', v', b', u', h1, h2, ru, r1⟩
      · have hz : (storedH l (nk k) b r₀).length ≤ sizeLine := by
          have := storedH_len l (nk k) b r₀
          have := repT_len qk
          omega
        obtain ⟨ob, es, ep, hq, _⟩ := id dd'
        exact q2 h1 _ _ z r₀ (d_write I (by rw [e]; exact True.intro) sb ⟨ob, hq⟩ (dn_ok hs hz dd')) (R.write hb (.inr ⟨rfl, _, L2.upd_same, nodup_put nd, put_T hk rk rx rz qk nd⟩)) rz rx
      · rw [h2] at hn; cases hn
/-- d.pop(k), there -/
theorem vs_pop {n : Nat} {x : D} {Q : Value → Shared → Prop} (hu : A.units + 64 < cLine) (R : Rel X.prog X.w X.K mg Φ Z β U H) (I : Inv X pins σ H s) (h : U[n]? = some (.dct t kvs)) (hk : keyFor t k = true) (hx : lookD kvs k = some x)
    (rd : RepV X.prog X.w X.K Z β (.ref n) v) (rk : RepV X.prog X.w X.K Z β k y) (rv : RelV v r) (ry : RelV y u)
    (q : ∀ H' s' z z', Inv X pins σ H' s' → Rel X.prog X.w X.K mg Φ Z β (U.set n (.dct t (dropD kvs k))) H' → RelV z z' → RepV X.prog X.w X.K Z β x z → Q z' s') : wpAny (model X.prog X.w) A (call (.builtin "dict.pop") [r, u]) Q E s := by
  simp only [RepV] at rd
  obtain ⟨a, rfl, hb⟩ := rd
  cases rv
  rcases R.obj _ _ _ h hb with ⟨rfl, l, e, q1⟩ | ⟨rfl, l, e, nd, q1⟩
  · obtain ⟨kk, hkk⟩ := keyD_of_flat (d := k) (by simpa [keyFor] using hk)
    have := kV_of hkk rk
    subst this
    rcases look_K hkk q1 with ⟨h1, h2⟩ | ⟨x', v, h1, h2, r1⟩
    · rw [h1] at hx; cases hx
    · rw [h1] at hx
      cases hx
      refine d_pop (v := v) (more := []) I e ry h2 (.inl rfl) fun w' s' I' rw' => q _ s' v w' I' ?_ rw' r1
      exact R.write hb (.inl ⟨rfl, _, L2.upd_same, drop_K hkk q1 (dk_nodup I e)⟩)
  · obtain ⟨b, rfl⟩ := key1_ref hk rk
    cases ry
    obtain ⟨hs, hl2, dd⟩ := dn_heap R I (.inl e) nd q1
    rcases look_T hk q1 with ⟨h1, h2⟩ | ⟨x', v, b', u', h1, h2, ru, r1⟩
    · rw [h1] at hx; cases hx
    · rw [h1] at hx
      cases hx
      refine call_pop_heap (hsz := hl2) (more := []) (.inl rfl) (PySem.F.args_dict_pop_2 _ _) (nroom hu) (key_is R I hk rk) hs dd h2 fun h' dd' sb => ?_
      have hz : (withoutH l (nk k)).length ≤ sizeLine := Nat.le_trans (List.length_filter_le _ _) hl2
      obtain ⟨ob, es, ep, hq, _⟩ := id dd'
      exact q _ _ v u' (d_write I (by rw [e]; exact True.intro) sb ⟨ob, hq⟩ (dn_ok hs hz dd')) (R.write hb (.inr ⟨rfl, _, L2.upd_same, nodup_drop nd, drop_T hk q1 nd⟩)) ru r1
end
end VI

/-! VIb5: in, is, order, truth, items, slices, by values. -/
namespace VI
open PySem PySem.Spec PyProof.Rows L2
section
variable {X : Cx}
theorem flats_rep {P : Program} {w : World} {K : PySem.W.Frag} {Z : Hp} {β : List Addr} {a : D} {x : V} (fa : flat a = true) (ra : RepV P w K Z β a x) : ∀ {ys : List D} {vs : List V}, ys.all flat = true → RepL P w K Z β ys vs → vs.all flatV = true ∧ inV x vs = ys.any fun y => pyeq y a
  | [], vs, _, r => by
    simp only [RepL] at r
    subst r
    exact ⟨rfl, rfl⟩
  | y :: t, vs, h, r => by
    simp only [RepL] at r
    obtain ⟨v, s, rfl, r1, r2⟩ := r
    simp only [List.all_cons, Bool.and_eq_true] at h
    obtain ⟨h1, h2⟩ := flat_eqV h.1 fa r1 ra
    obtain ⟨h3, h4⟩ := flats_rep fa ra h.2 r2
    refine ⟨by simp [h1, h3], ?_⟩
    unfold inV at h4 ⊢
    rw [List.any_cons, List.any_cons, h2, h4]
theorem inL_rep {P : Program} {w : World} {K : PySem.W.Frag} {mg : Str → Option Value} {Φ : List (Addr × HO)} {Z : Hp} {β : List Addr} {U : Store} {H : Hp} {a b : D} {x y : V} {xs : List D} {k : Bool} (R : Rel P w K mg Φ Z β U H) (ra : RepV P w K Z β a x) (rb : RepV P w K Z β b y) (hq : asQ U b = some xs) (e : inL U a b xs = some k) :
    (∃ p vs, y = .ref p ∧ (SqL K H p vs ∨ SqT K H p vs) ∧ flatV x = true ∧ vs.all flatV = true ∧ inV x vs = k) ∨
    ∃ d ds, Dp K H x d ∧ Dp K H y (.list ds) ∧ SeqAt.shaped d = true ∧ SeqAt.shaped (.list ds) = true ∧ (ds.any fun z => PyData.eqv z d) = k := by
  obtain ⟨p, vs, rfl, sq, q⟩ := R.seq hq rb
  unfold inL at e
  split at e
  · rename_i x' ys hs
    cases e
    unfold snaps at hs
    split at hs
    · rename_i hf
      simp only [Bool.and_eq_true] at hf
      cases hs
      obtain ⟨h1, h2⟩ := flats_rep hf.1 ra hf.2 q
      refine .inl ⟨p, vs, rfl, sq, ?_, h1, h2⟩
      cases a <;> simp [flat] at hf <;> simp only [RepV] at ra <;> subst ra <;> rfl
    · split at hs
      · rename_i hl h1 h2
        split at hs
        · rename_i hp
          simp only [Bool.and_eq_true] at hp
          cases hs
          obtain ⟨p', vs', e', sl, q'⟩ := R.list hl rb
          cases e'
          have : (∃ zs, asL U b = some zs) := ⟨_, hl⟩
          have exs : ∀ zs, asL U b = some zs → asQ U b = some zs := fun zs hz => by
            cases b <;> simp_all [asQ, asL]
          have := exs _ hl
          rw [hq] at this
          cases this
          refine .inr ⟨_, _, dp_of hp.1 (snap_rep R h1 ra), .lst sl (dpL_of hp.2 (snapL_rep R h2 q')), shaped_toP hp.1, ?_, ?_⟩
          · have := lay_toPL _ 39 hp.2
            show (PyData.canLay0 (.list (toPL ys)) && decide ((PyData.list (toPL ys)).depth ≤ 64)) = true
            rw [Bool.and_eq_true]
            simp only [PyData.canLay0, PyData.depth]
            exact ⟨this.1, decide_eq_true (by omega)⟩
          · rw [toPL_map, List.any_map]
            have : ∀ zs : List D, plainL zs 39 = true → (zs.any ((fun z => PyData.eqv z (toP x')) ∘ toP)) = zs.any fun y => pyeq y x' := by
              intro zs
              induction zs with
              | nil => intro _; rfl
              | cons z r ih =>
                intro hz
                simp only [plainL, Bool.and_eq_true] at hz
                rw [List.any_cons, List.any_cons, ih hz.2, Function.comp_apply, eqv_toP z x' 39 40 hz.1 hp.1]
            exact this ys hp.2
        · cases hs
      · cases hs
  · cases e
theorem or_in (hu : X.A.units + 65 < cLine) : OpR X (compareOp .In) (rc X.prog X.w X.K X.mg .isIn) := by
  intro pins s σ H x y v u Q I rx ry ⟨Φ, Z, β, U, a, b, k, R, ra, rb, e, q⟩
  change member U a b = some k at e
  unfold member at e
  split at e
  · split at e
    · cases e
      simp only [RepV] at ra rb
      subst ra rb
      exact op_in_sign pins s σ H _ _ v u Q I rx ry ⟨_, _, rfl, rfl, by simpa using q⟩
    · cases e
  · split at e
    · rename_i xs hq
      rcases inL_rep R ra rb hq e with ⟨p, vs, rfl, sq, h1, h2, h3⟩ | ⟨d, ds, h1, h2, h3, h4, h5⟩
      · exact op_in_seq pins s σ H _ _ v u Q I rx ry ⟨p, vs, rfl, sq, h1, h2, by simp only [Bool.false_eq_true, if_false]; rw [h3]; exact q⟩
      · exact L2.op_inD hu pins s σ H _ _ v u Q I rx ry ⟨d, ds, h1, h2, h3, h4, by rw [h5]; exact q⟩
    · unfold hasD at e
      split at e
      · rename_i t kvs hd
        split at e
        · cases e
          exact vd_in (by omega) R I hd (by assumption) rb ra ry rx fun s' I' => ⟨.bl _, H, I', rfl, q⟩
        · cases e
      · cases e
theorem or_notIn (hu : X.A.units + 65 < cLine) : OpR X (compareOp .NotIn) (rc X.prog X.w X.K X.mg .notIn) := by
  intro pins s σ H x y v u Q I rx ry ⟨Φ, Z, β, U, a, b, k, R, ra, rb, e, q⟩
  change (member U a b).map (! ·) = some k at e
  rw [Option.map_eq_some_iff] at e
  obtain ⟨k, e, rfl⟩ := e
  unfold member at e
  split at e
  · split at e
    · cases e
      simp only [RepV] at ra rb
      subst ra rb
      exact op_notIn_sign pins s σ H _ _ v u Q I rx ry ⟨_, _, rfl, rfl, by simpa using q⟩
    · cases e
  · split at e
    · rename_i xs hq
      rcases inL_rep R ra rb hq e with ⟨p, vs, rfl, sq, h1, h2, h3⟩ | ⟨d, ds, h1, h2, h3, h4, h5⟩
      · exact op_notIn_seq pins s σ H _ _ v u Q I rx ry ⟨p, vs, rfl, sq, h1, h2, by simp only [if_true]; rw [h3]; exact q⟩
      · exact L2.op_notInD hu pins s σ H _ _ v u Q I rx ry ⟨d, ds, h1, h2, h3, h4, by rw [h5]; exact q⟩
    · unfold hasD at e
      split at e
      · rename_i t kvs hd
        split at e
        · cases e
          exact vd_notIn (by omega) R I hd (by assumption) rb ra ry rx fun s' I' => ⟨.bl _, H, I', rfl, q⟩
        · cases e
      · cases e
theorem non_rep {P : Program} {w : World} {K : PySem.W.Frag} {Z : Hp} {β : List Addr} {a : D} {x : V} (ra : RepV P w K Z β a x) : decide (x = .non) = (match a with | .non => true | _ => false) := by
  cases a <;> simp only [RepV] at ra
  · subst ra; rfl
  · subst ra; rfl
  · subst ra; rfl
  · subst ra; rfl
  · obtain ⟨_, _, rfl, _⟩ := ra; rfl
  · obtain ⟨_, _, rfl, _⟩ := ra; rfl
  · obtain ⟨_, rfl, _⟩ := ra; rfl
  · obtain ⟨_, rfl, _⟩ := ra; rfl
theorem or_is : OpR X (compareOp .Is) (rc X.prog X.w X.K X.mg .is) := by
  refine OpR.imp (op_isN.or op_isBl) ?_
  rintro x y H Q ⟨Φ, Z, β, U, a, b, k, R, ra, rb, e, q⟩
  simp only [cmpop] at e
  split at e
  · have hb : y = .non := by simpa only [RepV] using rb
    refine .inl ⟨hb, ?_⟩
    rw [non_rep ra]
    split at e <;> cases e
    · exact q
    · rename_i hn
      split
      · exact absurd rfl hn
      · exact q
  · cases e
    simp only [RepV] at ra rb
    exact .inr ⟨_, _, ra, rb, q⟩
  · cases e
theorem or_isNot : OpR X (compareOp .IsNot) (rc X.prog X.w X.K X.mg .isNot) := by
  refine OpR.imp (op_notN.or op_notBl) ?_
  rintro x y H Q ⟨Φ, Z, β, U, a, b, k, R, ra, rb, e, q⟩
  simp only [cmpop] at e
  split at e
  · have hb : y = .non := by simpa only [RepV] using rb
    refine .inl ⟨hb, ?_⟩
    rw [non_rep ra]
    split at e <;> cases e
    · exact q
    · rename_i hn
      split
      · exact absurd rfl hn
      · exact q
  · cases e
    simp only [RepV] at ra rb
    exact .inr ⟨_, _, ra, rb, q⟩
  · cases e
theorem or_lt : OpR X (compareOp .Lt) (rc X.prog X.w X.K X.mg .lt) := by
  refine OpR.imp (op_lt.or op_lt_str) ?_
  rintro x y H Q ⟨Φ, Z, β, U, a, b, k, R, ra, rb, e, q⟩
  simp only [cmpop] at e
  split at e
  · cases e
    simp only [RepV] at ra rb
    exact .inl ⟨_, _, ra, rb, q⟩
  · cases e
    simp only [RepV] at ra rb
    exact .inr ⟨_, _, ra, rb, q⟩
  · cases e
theorem or_le : OpR X (compareOp .LtE) (rc X.prog X.w X.K X.mg .le) := by
  refine OpR.imp op_le ?_
  rintro x y H Q ⟨Φ, Z, β, U, a, b, k, R, ra, rb, e, q⟩
  simp only [cmpop] at e
  split at e
  · cases e
    simp only [RepV] at ra rb
    exact ⟨_, _, ra, rb, q⟩
  · cases e
theorem or_gt : OpR X (compareOp .Gt) (rc X.prog X.w X.K X.mg .gt) := by
  refine OpR.imp op_gt ?_
  rintro x y H Q ⟨Φ, Z, β, U, a, b, k, R, ra, rb, e, q⟩
  simp only [cmpop] at e
  split at e
  · cases e
    simp only [RepV] at ra rb
    exact ⟨_, _, ra, rb, q⟩
  · cases e
theorem or_ge : OpR X (compareOp .GtE) (rc X.prog X.w X.K X.mg .ge) := by
  refine OpR.imp op_ge ?_
  rintro x y H Q ⟨Φ, Z, β, U, a, b, k, R, ra, rb, e, q⟩
  simp only [cmpop] at e
  split at e
  · cases e
    simp only [RepV] at ra rb
    exact ⟨_, _, ra, rb, q⟩
  · cases e
/-- which operator of the model's -/
def cop : COp → CmpOp
  | .eq => .Eq | .ne => .NotEq | .lt => .Lt | .le => .LtE | .gt => .Gt | .ge => .GtE | .isIn => .In | .notIn => .NotIn | .is => .Is | .isNot => .IsNot
theorem or_cmp (hu : X.A.units + 65 < cLine) (op : COp) : OpR X (compareOp (cop op)) (rc X.prog X.w X.K X.mg op) := by
  cases op
  · exact or_eq (by omega)
  · exact or_ne (by omega)
  · exact or_lt
  · exact or_le
  · exact or_gt
  · exact or_ge
  · exact or_in hu
  · exact or_notIn hu
  · exact or_is
  · exact or_isNot
def bop : BOp → Operator
  | .add => .Add | .sub => .Sub | .mul => .Mult | .fdiv => .FloorDiv | .mod => .Mod | .pow => .Pow
theorem or_bin (op : BOp) (m : Bool) : OpR X (binaryOp (bop op)) (r2 X.prog X.w X.K X.mg (binop op m)) := by
  cases op
  · exact or_add m
  · exact or_sub m
  · refine OpR.imp (or_mul m) ?_
    rintro x y H Q ⟨Φ, Z, β, U, a, b, d, U', R, ra, rb, e, dn⟩
    refine ⟨Φ, Z, β, U, a, b, d, U', R, ra, rb, ?_, dn⟩
    change mulOp m a b U = _ at e
    unfold mulOp at e
    split at e
    · exact e
    · exact e
    · cases e
  · exact or_fdiv m
  · exact or_mod m
  · exact or_pow m
/-! ### truth -/
theorem or_truth : TruR X (fun x H Q => ∃ Φ Z β U a k, Rel X.prog X.w X.K X.mg Φ Z β U H ∧ RepV X.prog X.w X.K Z β a x ∧ truth U a = some k ∧ Q k H) := by
  intro pins s σ H x v Q I rx ⟨Φ, Z, β, U, a, k, R, ra, e, q⟩
  have seq : ∀ xs, asQ U a = some xs → k = !xs.isEmpty → wpAny (model X.prog X.w) X.A (truthy v) (TP X pins σ Q) X.xe s := fun xs h1 h2 => by
    obtain ⟨p, vs, rfl, sq, ql⟩ := R.seq h1 ra
    have hk : k = !vs.isEmpty := by
      rw [h2]
      have := ql.length
      cases xs <;> cases vs <;> simp_all
    rcases sq with sq | sq
    · exact tru_ok pins s σ H _ v Q I rx ⟨k, .inl ⟨vs, sq, hk⟩, q⟩
    · exact tru_ok pins s σ H _ v Q I rx ⟨k, .inr (.inl ⟨vs, sq, hk⟩), q⟩
  have dic : ∀ kvs, asD U a = some (0, kvs) → k = !kvs.isEmpty → wpAny (model X.prog X.w) X.A (truthy v) (TP X pins σ Q) X.xe s := fun kvs h1 h2 => by
    obtain ⟨p, rfl, h⟩ := R.dict h1 ra
    cases rx
    rcases h with ⟨_, l, e, q1⟩ | ⟨h0, l, e, nd, q1⟩
    · refine d_truth I (.inl e) fun s' I' => ⟨H, I', ?_⟩
      have : kvs.isEmpty = l.isEmpty := by
        have := repK_len q1
        cases kvs <;> cases l <;> simp_all
      rw [← this, ← h2]
      exact q
    · cases h0
  cases a <;> simp only [truth, reduceCtorEq, Option.some.injEq] at e
  · simp only [RepV] at ra
    subst ra
    exact tru_ok pins s σ H _ v Q I rx ⟨k, e.symm, q⟩
  · simp only [RepV] at ra
    subst ra
    exact tru_ok pins s σ H _ v Q I rx ⟨k, e.symm, q⟩
  · simp only [RepV] at ra
    subst ra
    refine tru_ok pins s σ H _ v Q I rx ⟨k, ?_, q⟩
    show k = (_ != 0)
    rw [← e]
    simp only [bne, ne_eq, decide_not]
    rfl
  · split at e
    · rename_i z hz
      simp only [Option.some.injEq] at e
      simp only [RepV] at ra
      subst ra
      refine tru_ok pins s σ H _ v Q I rx ⟨k, ⟨?_, ?_⟩, q⟩
      · rw [str_len, ← SZ_eq]
        exact hz
      · rw [← e, str_len]
        cases z with
        | nil => rfl
        | cons c r => simp [bne, List.isEmpty]; omega
    · cases e
  · exact seq _ rfl e.symm
  · exact seq _ rfl e.symm
  · split at e
    · rename_i h0
      subst h0
      simp only [Option.some.injEq] at e
      exact dic _ rfl e.symm
    · cases e
  · split at e
    · rename_i hu
      simp only [Option.some.injEq] at e
      exact seq _ (by simp [asQ, asL, hu]) e.symm
    · rename_i t kvs hu
      split at e
      · rename_i h0
        subst h0
        simp only [Option.some.injEq] at e
        exact dic _ (by simp [asD, hu]) e.symm
      · cases e
    · cases e
end
end VI

/-! VIb6: items, slices, stores, fields, by values. -/
namespace VI
open PySem PySem.Spec PyProof.Rows L2
section
variable {X : Cx}
theorem asQ_asD {U : Store} {d : D} {t : Nat} {kvs : List (D × D)} (h : asD U d = some (t, kvs)) : asQ U d = none := by
  cases d <;> simp_all [asD, asQ, asL]
  split at h <;> simp_all
theorem atI_len {α : Type} {xs : List α} {i : Int} {v : α} (h : VI.atI xs i = some v) : ∃ j, ixN xs.length i = some j ∧ xs[j]? = some v := by
  unfold VI.atI at h
  exact Option.bind_eq_some_iff.mp h
theorem atI_eq {α : Type} (xs : List α) (i : Int) : VI.atI xs i = L2.atI xs i := by
  unfold VI.atI L2.atI VI.ixN L2.ixN
  rfl
theorem atI_rep {P : Program} {w : World} {K : PySem.W.Frag} {Z : Hp} {β : List Addr} {xs : List D} {vs : List V} {i : Int} {d : D} (q : RepL P w K Z β xs vs) (h : VI.atI xs i = some d) : ∃ v, L2.atI vs i = some v ∧ RepV P w K Z β d v := by
  obtain ⟨j, h1, h2⟩ := atI_len h
  obtain ⟨v, e, r⟩ := q.get h2
  refine ⟨v, ?_, r⟩
  rw [← atI_eq]
  unfold VI.atI
  rw [← q.length, h1]
  exact e
theorem ix_all (hu : X.A.units + 64 < cLine) : IxR X (r2 X.prog X.w X.K X.mg index1) := by
  intro value slice pins s σ H x y v u Q I rx ry ⟨Φ, Z, β, U, a, b, d, U', R, ra, rb, e, dn⟩ hs
  unfold index1 at e
  split at e
  · rename_i z i
    split at e
    · rename_i hz
      split at e
      · rename_i c hc
        obtain ⟨rfl, rfl⟩ := ok_inj e
        simp only [RepV] at ra rb
        subst ra rb
        refine ix_seq value slice pins s σ H _ _ v u Q I rx ry (.inr (.inr ⟨_, i, c, rfl, rfl, ?_, ?_, ?_⟩)) hs
        · rw [str_len, ← SZ_eq]; exact hz
        · rw [← atI_eq]; simpa using hc
        · exact dn.str R
      · cases e
    · cases e
  · split at e
    · rename_i xs hq
      obtain ⟨p, vs, rfl, sq, q⟩ := R.seq hq ra
      split at e
      · rename_i i _
        split at e
        · rename_i d' hd
          obtain ⟨rfl, rfl⟩ := ok_inj e
          simp only [RepV] at rb
          subst rb
          obtain ⟨v', e1, r1⟩ := atI_rep q hd
          rcases sq with sq | sq
          · exact ix_seq value slice pins s σ H _ _ v u Q I rx ry (.inl ⟨p, vs, i, v', rfl, rfl, sq, e1, dn.same R r1⟩) hs
          · exact ix_seq value slice pins s σ H _ _ v u Q I rx ry (.inr (.inl ⟨p, vs, i, v', rfl, rfl, sq, e1, dn.same R r1⟩)) hs
        · cases e
      · cases e
    · split at e
      · rename_i t kvs hd
        split at e
        · rename_i hk
          split at e
          · rename_i d' hx
            obtain ⟨rfl, rfl⟩ := ok_inj e
            have ht : s.TypeIs v "dict" := by
              obtain ⟨p, rfl, h⟩ := R.dict hd ra
              cases rx
              rcases h with ⟨rfl, l, e, q1⟩ | ⟨rfl, l, e, nd, q1⟩
              · obtain ⟨_, _, vs, _, dd⟩ := dk_rd I.hok (.inl e)
                exact dd.typeIs
              · obtain ⟨_, _, dd⟩ := dn_heap R I e nd q1
                exact dd.typeIs
            exact tail_any ht PySem.F.slot_dict_getitem.lookup (vd_get hu R I hd hk ra rb rx ry hx fun z z' s' I' r' q' => ⟨z, H, I', r', dn.same R q'⟩) hs
          · cases e
        · cases e
      · cases e
/-! ### slices -/
theorem sIx_eq (n d : Nat) (o : Option Int) : VI.sIx n d o = HT.sIx n d o := by cases o <;> rfl
theorem cut_rep {P : Program} {w : World} {K : PySem.W.Frag} {Z : Hp} {β : List Addr} {xs : List D} {vs : List V} (q : RepL P w K Z β xs vs) (lo hi : Option Int) : RepL P w K Z β (cut xs lo hi) (cutV vs lo hi) := by
  unfold cut cutV
  rw [← q.length, ← sIx_eq, ← sIx_eq]
  exact (q.drop _).take _
theorem cut_all {α : Type} {xs : List α} {lo hi : Option Int} (h : HT.sIx xs.length 0 lo = 0 ∧ HT.sIx xs.length xs.length hi = xs.length) : cut xs lo hi = xs := by
  unfold cut
  rw [sIx_eq, sIx_eq, h.1, h.2]
  simp
def rSl (P : Program) (w : World) (K : PySem.W.Frag) (mg : Str → Option Value) (m : Bool) : V → Option Int → Option Int → Hp → VK → Prop := fun x lo hi H Q =>
  ∃ Φ Z β U a dl dh d U', Rel P w K mg Φ Z β U H ∧ RepV P w K Z β a x ∧ bnd? dl = some lo ∧ bnd? dh = some hi ∧ slice1 m a dl dh U = some (.ok d U') ∧ Done P w K mg Φ Z β d U' Q
theorem sl_all (m : Bool) : SlR X (rSl X.prog X.w X.K X.mg m) := by
  intro pins s σ H x v vl vu lo hi sl Q I rx hs pl pu ⟨Φ, Z, β, U, a, dl, dh, d, U', R, ra, bl, bh, e, dn⟩
  unfold slice1 at e
  simp only [bl, bh] at e
  unfold sliceB at e
  split at e
  · rename_i z
    split at e
    · rename_i hz
      obtain ⟨rfl, rfl⟩ := ok_inj e
      simp only [RepV] at ra
      subst ra
      refine sl_str pins s σ H _ v vl vu lo hi sl Q I rx hs pl pu ⟨_, rfl, by rw [str_len, ← SZ_eq]; exact hz, ?_⟩
      have : cutS ⟨z.toArray⟩ lo hi = ⟨(cut z lo hi).toArray⟩ := by
        unfold cutS cut
        simp only [sIx_eq, str_len]
      rw [this]
      exact dn.str R
    · cases e
  · rename_i xs
    obtain ⟨rfl, rfl⟩ := ok_inj e
    obtain ⟨p, vs, rfl, sq, q⟩ := R.tuple ra
    refine sl_tupA pins s σ H _ v vl vu lo hi sl Q I rx hs pl pu ⟨p, vs, rfl, sq, fun hw => ?_, fun hw p hp => ?_⟩
    · rw [← q.length] at hw
      rw [cut_all hw] at dn
      exact dn.same R ra
    · exact dn.tup R (cut_rep q lo hi) hp
  · split at e
    · rename_i xs hq
      obtain ⟨p, vs, rfl, sq, q⟩ := R.list hq ra
      exact sl_list pins s σ H _ v vl vu lo hi sl Q I rx hs pl pu ⟨p, vs, rfl, sq, fun p hp => dn.lst R e (cut_rep q lo hi) hp⟩
    · cases e
end
end VI

/-! VIc1: frames, ends, the readings of the IR; the rules node by node. -/
namespace VI
open PySem PySem.Spec PyProof.Rows L2
/-! ### frames -/
def RepS (P : Program) (w : World) (K : PySem.W.Frag) (Z : Hp) (β : List Addr) (ρ : Rho) (σ : L2.St) : Prop :=
  ρ.length = σ.length ∧ ∀ (i : Nat) (d : D), ρ[i]? = some (some d) → ∃ v, σ[i]? = some (some v) ∧ RepV P w K Z β d v
section
variable {P : Program} {w : World} {K : PySem.W.Frag} {mg : Str → Option Value} {Φ : List (Addr × HO)} {Z Z' : Hp} {β β' : List Addr} {ρ : Rho} {σ : L2.St} {U U' : Store} {H : Hp}
theorem RepS.mono (h : RepS P w K Z β ρ σ) (z : ZLe Z Z') (b : BLe β β') : RepS P w K Z' β' ρ σ :=
  ⟨h.1, fun i d e => let ⟨v, e1, r⟩ := h.2 i d e; ⟨v, e1, RepV.mono z b r⟩⟩
theorem RepS.set {i : Nat} {d : D} {v : V} (h : RepS P w K Z β ρ σ) (r : RepV P w K Z β d v) : RepS P w K Z β (ρ.set i (some d)) (σ.set i (some v)) := by
  refine ⟨by simp [h.1], fun j e he => ?_⟩
  by_cases q : i = j
  · subst q
    by_cases hl : i < ρ.length
    · rw [List.getElem?_set_self hl] at he
      cases he
      exact ⟨v, by rw [List.getElem?_set_self (by rw [← h.1]; exact hl)], r⟩
    · rw [List.getElem?_eq_none (by simpa using hl)] at he
      cases he
  · rw [List.getElem?_set_ne q] at he ⊢
    exact h.2 j e he
theorem RepS.unset {i : Nat} (h : RepS P w K Z β ρ σ) (o : Option V) : RepS P w K Z β (ρ.set i none) (σ.set i o) := by
  refine ⟨by simp [h.1], fun j e he => ?_⟩
  by_cases q : i = j
  · subst q
    by_cases hl : i < ρ.length
    · rw [List.getElem?_set_self hl] at he
      cases he
    · rw [List.getElem?_eq_none (by simpa using hl)] at he
      cases he
  · rw [List.getElem?_set_ne q] at he ⊢
    exact h.2 j e he
theorem RepS.wipe (h : RepS P w K Z β ρ σ) : ∀ vs : List Nat, RepS P w K Z β (VI.wipe ρ vs) (L2.wipe σ vs)
  | [] => h
  | v :: vs => (RepS.wipe h vs).unset none
end
/-! ### ends -/
/-- what is wanted of an exception -/
def DoneX (P : Program) (w : World) (K : PySem.W.Frag) (mg : Str → Option Value) (Φ : List (Addr × HO)) (Z : Hp) (β : List Addr) (x : Ex) (U' : Store) (E : XK) : Prop :=
  ∀ (Z' : Hp) (β' : List Addr) (H' : Hp) (C dx : Addr) (v : V), ZLe Z Z' → BLe β β' → Rel P w K mg Φ Z' β' U' H' → mg (Str.ofString x.c) = some (.ref C) → RepV P w K Z' β' x.p v → H' dx = some (.xd [("place", v)]) → E (.ref C) (some dx) H'
theorem DoneX.mono {P : Program} {w : World} {K : PySem.W.Frag} {mg : Str → Option Value} {Φ : List (Addr × HO)} {Z Z' : Hp} {β β' : List Addr} {x : Ex} {U' : Store} {E : XK} (h : DoneX P w K mg Φ Z β x U' E) (z : ZLe Z Z') (b : BLe β β') : DoneX P w K mg Φ Z' β' x U' E :=
  fun Z2 β2 H2 C dx v z2 b2 => h Z2 β2 H2 C dx v (z.trans z2) (b.trans b2)
def DoneB (P : Program) (w : World) (K : PySem.W.Frag) (mg : Str → Option Value) (Φ : List (Addr × HO)) (Z : Hp) (β : List Addr) (U' : Store) (Q : Hp → Prop) : Prop := ∀ (Z' : Hp) (β' : List Addr) (H' : Hp), ZLe Z Z' → BLe β β' → Rel P w K mg Φ Z' β' U' H' → Q H'
def DoneL (P : Program) (w : World) (K : PySem.W.Frag) (mg : Str → Option Value) (Φ : List (Addr × HO)) (Z : Hp) (β : List Addr) (ds : List D) (U' : Store) (Q : List V → Hp → Prop) : Prop := ∀ (Z' : Hp) (β' : List Addr) (H' : Hp) (vs : List V), ZLe Z Z' → BLe β β' → Rel P w K mg Φ Z' β' U' H' → RepL P w K Z' β' ds vs → Q vs H'
/-- a result's wish -/
def Out {α : Type} (P : Program) (w : World) (K : PySem.W.Frag) (mg : Str → Option Value) (W : WX) (Φ : List (Addr × HO)) (Z : Hp) (β : List Addr) (σ : L2.St) (ok : α → Store → Prop) (r : VI.R α) : Prop :=
  match r with
  | .ok d U' => ok d U'
  | .ex x U' => DoneX P w K mg Φ Z β x U' fun cls d H => W cls d σ H
section
variable (P : Program) (w : World) (K : PySem.W.Frag) (mg : Str → Option Value) (C : Cal) (W : WX)
def tE (e : IE) : TE := fun σ H Q => ∃ Φ Z β ρ U r, RepS P w K Z β ρ σ ∧ Rel P w K mg Φ Z β U H ∧ ev C e ρ U = some r ∧ Out P w K mg W Φ Z β σ (fun d U' => Done P w K mg Φ Z β d U' Q) r
def tT (e : IE) : TT := fun σ H Q => ∃ Φ Z β ρ U r, RepS P w K Z β ρ σ ∧ Rel P w K mg Φ Z β U H ∧ evB C e ρ U = some r ∧ Out P w K mg W Φ Z β σ (fun k U' => DoneB P w K mg Φ Z β U' (Q k)) r
def tA (es : IEs) : TA := fun σ H Q => ∃ Φ Z β ρ U r, RepS P w K Z β ρ σ ∧ Rel P w K mg Φ Z β U H ∧ evs C es ρ U = some r ∧ Out P w K mg W Φ Z β σ (fun ds U' => DoneL P w K mg Φ Z β ds U' Q) r
end
section
variable {P : Program} {w : World} {K : PySem.W.Frag} {mg : Str → Option Value} {C : Cal} {W : WX} {Φ : List (Addr × HO)} {Z : Hp} {β : List Addr} {ρ : Rho} {σ : L2.St} {U : Store} {H : Hp} {Q : VK}
theorem tE_bnd {α : Type} {e : IE} {f : D → M α} {r : VI.R α} (S : RepS P w K Z β ρ σ) (R : Rel P w K mg Φ Z β U H) (h : bnd (ev C e ρ U) f = some r) (hx : ∀ x U', r = .ex x U' → DoneX P w K mg Φ Z β x U' fun cls d H => W cls d σ H)
    (k : ∀ Z' β' H' d v U', ZLe Z Z' → BLe β β' → Rel P w K mg Φ Z' β' U' H' → RepV P w K Z' β' d v → RepS P w K Z' β' ρ σ → f d U' = some r → Q v H') : tE P w K mg C W e σ H Q := by
  cases q : ev C e ρ U with
  | none =>
    rw [q] at h
    cases h
  | some r1 =>
    rw [q] at h
    refine ⟨Φ, Z, β, ρ, U, r1, S, R, q, ?_⟩
    cases r1 with
    | ok d U' => exact fun Z' β' H' v z b R' r' => k Z' β' H' d v U' z b R' r' (S.mono z b) h
    | ex x U' => exact hx x U' (by rw [bnd_ex] at h; exact (Option.some.inj h).symm)
theorem tT_bnd {α : Type} {e : IE} {f : Bool → M α} {r : VI.R α} {Q : Bool → Hp → Prop} (S : RepS P w K Z β ρ σ) (R : Rel P w K mg Φ Z β U H) (h : bnd (evB C e ρ U) f = some r) (hx : ∀ x U', r = .ex x U' → DoneX P w K mg Φ Z β x U' fun cls d H => W cls d σ H)
    (k : ∀ Z' β' H' d U', ZLe Z Z' → BLe β β' → Rel P w K mg Φ Z' β' U' H' → RepS P w K Z' β' ρ σ → f d U' = some r → Q d H') : tT P w K mg C W e σ H Q := by
  cases q : evB C e ρ U with
  | none =>
    rw [q] at h
    cases h
  | some r1 =>
    rw [q] at h
    refine ⟨Φ, Z, β, ρ, U, r1, S, R, q, ?_⟩
    cases r1 with
    | ok d U' => exact fun Z' β' H' z b R' => k Z' β' H' d U' z b R' (S.mono z b) h
    | ex x U' => exact hx x U' (by rw [bnd_ex] at h; exact (Option.some.inj h).symm)
theorem tA_bnd {α : Type} {e : IEs} {f : List D → M α} {r : VI.R α} {Q : List V → Hp → Prop} (S : RepS P w K Z β ρ σ) (R : Rel P w K mg Φ Z β U H) (h : bnd (evs C e ρ U) f = some r) (hx : ∀ x U', r = .ex x U' → DoneX P w K mg Φ Z β x U' fun cls d H => W cls d σ H)
    (k : ∀ Z' β' H' d v U', ZLe Z Z' → BLe β β' → Rel P w K mg Φ Z' β' U' H' → RepL P w K Z' β' d v → RepS P w K Z' β' ρ σ → f d U' = some r → Q v H') : tA P w K mg C W e σ H Q := by
  cases q : evs C e ρ U with
  | none =>
    rw [q] at h
    cases h
  | some r1 =>
    rw [q] at h
    refine ⟨Φ, Z, β, ρ, U, r1, S, R, q, ?_⟩
    cases r1 with
    | ok d U' => exact fun Z' β' H' v z b R' r' => k Z' β' H' d v U' z b R' r' (S.mono z b) h
    | ex x U' => exact hx x U' (by rw [bnd_ex] at h; exact (Option.some.inj h).symm)
/-- the wish of the rest, later -/
theorem hx_mono {α : Type} {r : VI.R α} {Z' : Hp} {β' : List Addr} (hx : ∀ x U', r = .ex x U' → DoneX P w K mg Φ Z β x U' fun cls d H => W cls d σ H) (z : ZLe Z Z') (b : BLe β β') : ∀ x U', r = .ex x U' → DoneX P w K mg Φ Z' β' x U' fun cls d H => W cls d σ H :=
  fun x U' e => (hx x U' e).mono z b
theorem Out.wish {α : Type} {ok : α → Store → Prop} {r : VI.R α} (o : Out P w K mg W Φ Z β σ ok r) : ∀ x U', r = .ex x U' → DoneX P w K mg Φ Z β x U' fun cls d H => W cls d σ H := fun x U' e => by
  subst e
  exact o
theorem DoneB.mono {Z' : Hp} {β' : List Addr} {U' : Store} {Q : Hp → Prop} (h : DoneB P w K mg Φ Z β U' Q) (z : ZLe Z Z') (b : BLe β β') : DoneB P w K mg Φ Z' β' U' Q := fun Z2 β2 H2 z2 b2 => h Z2 β2 H2 (z.trans z2) (b.trans b2)
theorem DoneL.mono {Z' : Hp} {β' : List Addr} {ds : List D} {U' : Store} {Q : List V → Hp → Prop} (h : DoneL P w K mg Φ Z β ds U' Q) (z : ZLe Z Z') (b : BLe β β') : DoneL P w K mg Φ Z' β' ds U' Q := fun Z2 β2 H2 vs z2 b2 => h Z2 β2 H2 vs (z.trans z2) (b.trans b2)
theorem Out.mono {α : Type} {ok ok' : α → Store → Prop} {r : VI.R α} {Z' : Hp} {β' : List Addr} (o : Out P w K mg W Φ Z β σ ok r) (z : ZLe Z Z') (b : BLe β β') (h : ∀ d U', ok d U' → ok' d U') : Out P w K mg W Φ Z' β' σ ok' r := by
  cases r with
  | ok d U' => exact h d U' o
  | ex x U' =>
    have o : DoneX P w K mg Φ Z β x U' fun cls d H => W cls d σ H := o
    exact o.mono z b
theorem Out.monoE {r : VI.R D} {Z' : Hp} {β' : List Addr} (o : Out P w K mg W Φ Z β σ (fun d U' => Done P w K mg Φ Z β d U' Q) r) (z : ZLe Z Z') (b : BLe β β') : Out P w K mg W Φ Z' β' σ (fun d U' => Done P w K mg Φ Z' β' d U' Q) r := o.mono z b fun d U' h => Done.mono h z b
theorem Out.monoT {Q : Bool → Hp → Prop} {r : VI.R Bool} {Z' : Hp} {β' : List Addr} (o : Out P w K mg W Φ Z β σ (fun k U' => DoneB P w K mg Φ Z β U' (Q k)) r) (z : ZLe Z Z') (b : BLe β β') : Out P w K mg W Φ Z' β' σ (fun k U' => DoneB P w K mg Φ Z' β' U' (Q k)) r := o.mono z b fun d U' h => DoneB.mono h z b
theorem Out.monoL {Q : List V → Hp → Prop} {r : VI.R (List D)} {Z' : Hp} {β' : List Addr} (o : Out P w K mg W Φ Z β σ (fun ds U' => DoneL P w K mg Φ Z β ds U' Q) r) (z : ZLe Z Z') (b : BLe β β') : Out P w K mg W Φ Z' β' σ (fun ds U' => DoneL P w K mg Φ Z' β' ds U' Q) r := o.mono z b fun d U' h => DoneL.mono h z b
theorem Out.ok {α : Type} {ok : α → Store → Prop} {d : α} {U' : Store} (o : Out P w K mg W Φ Z β σ ok (.ok d U')) : ok d U' := o
/-- the same, by another reading -/
theorem tE_as {a b : IE} (h : ∀ ρ U, ev C a ρ U = ev C b ρ U) : tE P w K mg C W a = tE P w K mg C W b := by
  unfold tE
  simp only [h]
theorem _root_.L2.PE.imp {X : Cx} {e : Expr} {t t' : TE} (h : PE X e t) (i : ∀ σ H Q, t' σ H Q → t σ H Q) : PE X e t' := ⟨fun pins s σ H Q I q => h.run pins s σ H Q I (i σ H Q q)⟩
theorem _root_.L2.PT.imp {X : Cx} {e : Expr} {t t' : TT} (h : PT X e t) (i : ∀ σ H Q, t' σ H Q → t σ H Q) : PT X e t' := ⟨fun pins s σ H Q I q => h.run pins s σ H Q I (i σ H Q q)⟩
end
/-! ### tame expressions -/
def tame : Expr → Bool
  | .Starred _ _ => false
  | .Set _ _ _ => false
  | .Slice _ _ _ _ => false
  | _ => true
theorem star_tame {e : Expr} (h : tame e = true) (es : List Expr) (env : Env) : starEach (e :: es) env = (false, eval e env) :: starEach es env := by
  cases e <;> first | rfl | cases h
theorem marks_tame {e : Expr} (h : tame e = true) (op : CmpOp) : behindInMarks op e = false := by
  cases e <;> first | rfl | cases h
theorem ix_tame {e : Expr} (h : tame e = true) : PlainIx e := fun o i => by
  cases e <;> first | rfl | cases h
theorem fold_tame {e : Expr} (h : tame e = true) (env : Env) : ∀ x, foldedSetIterable e env x = pure x := fun x => by
  cases e <;> first | rfl | cases h
theorem stars_tame : ∀ {es : List Expr}, es.all tame = true → ∀ (pos : Pos) (env : Env), (backTo pos (starEach es env)).any (·.1) = false
  | [], _, _, _ => rfl
  | e :: r, h, pos, env => by
    simp only [List.all_cons, Bool.and_eq_true] at h
    rw [star_tame h.1]
    exact stars_tame h.2 pos env
def noComp : Expr → Bool
  | .ListComp _ _ _ _ => false
  | .SetComp _ _ _ _ => false
  | .DictComp _ _ _ _ _ => false
  | _ => true
theorem swaps_no {e : Expr} (h : noComp e = true) (t : Option Expr) (l : Nat) (env : Env) : swapsWith e t l env = pure false := by
  cases e <;> first | rfl | cases h
def noSup : Expr → Bool
  | .Call (.Name id _) [] [] _ => id != "super"
  | _ => true
theorem attr_noSup {o : Expr} (h : noSup o = true) (f : Str) (env : Env) (whole : Sem Value) : attributeBase o f env whole = whole := by
  unfold attributeBase
  split
  · rename_i id _ _
    have : (id != "super") = true := h
    rw [this]
    simp
  · rfl
end VI

/-! VIc2: the rules node by node: expressions. -/
namespace VI
open PySem PySem.Spec PyProof.Rows L2
theorem addOp_ok {m : Bool} {a b : D} {U V : Store} {x : Ex} (h : addOp m a b U = some (.ex x V)) : False := by
  unfold addOp mkL at h
  repeat' split at h
  all_goals cases h
theorem binop_ok {op : BOp} {m : Bool} {a b : D} {U V : Store} {x : Ex} (h : binop op m a b U = some (.ex x V)) : False := by
  cases op <;> simp only [binop] at h
  · exact addOp_ok h
  · split at h <;> cases h
  · unfold mulOp at h
    repeat' split at h
    all_goals cases h
  · repeat' split at h
    all_goals cases h
  · repeat' split at h
    all_goals cases h
  · repeat' split at h
    all_goals cases h
theorem mkL_ok {m : Bool} {xs : List D} {U V : Store} {x : Ex} (h : mkL m xs U = some (.ex x V)) : False := by
  unfold mkL at h
  split at h <;> cases h
theorem index1_ok {a b : D} {U V : Store} {x : Ex} (h : index1 a b U = some (.ex x V)) : False := by
  unfold index1 at h
  repeat' split at h
  all_goals cases h
theorem slice1_ok {m : Bool} {a b c : D} {U V : Store} {x : Ex} (h : slice1 m a b c U = some (.ex x V)) : False := by
  unfold slice1 sliceB mkL at h
  repeat' split at h
  all_goals cases h
/-- how an operation that raises nothing ends -/
theorem must {α : Type} {r : VI.R α} {o : Option (VI.R α)} (h : o = some r) (n : ∀ x V, o = some (.ex x V) → False) : ∃ d U', r = .ok d U' := by
  cases r with
  | ok d U' => exact ⟨d, U', rfl⟩
  | ex x V => exact (n x V h).elim
section
variable {X : Cx} {C : Cal} {W : WX} {e e1 e2 e3 : Expr} {a b c : IE} {pos : Pos}
abbrev xE (X : Cx) (C : Cal) (W : WX) (e : IE) : TE := tE X.prog X.w X.K X.mg C W e
abbrev xT (X : Cx) (C : Cal) (W : WX) (e : IE) : TT := tT X.prog X.w X.K X.mg C W e
abbrev xA (X : Cx) (C : Cal) (W : WX) (e : IEs) : TA := tA X.prog X.w X.K X.mg C W e
theorem n_var {i : Nat} {x : Str} (hN : X.N[i]? = some x) (hv : Vis X.env.scope x) (hd : (x == ("__debug__" : Str)) = false) (hcd : (x == ("__classdict__" : Str)) = false) : PE X (.Name x pos) (xE X C W (.var i)) := by
  refine (pe_var hN hv hd hcd).imp fun σ H Q ⟨Φ, Z, β, ρ, U, r, S, R, h, o⟩ => ?_
  rw [ev] at h
  split at h
  · rename_i d hd
    cases h
    obtain ⟨v, e1, r1⟩ := S.2 i d hd
    exact ⟨v, e1, Done.same o R r1⟩
  · cases h
theorem n_cst {d : D} {v : V} (h : PE X e (tC v)) (r : ∀ Z β, RepV X.prog X.w X.K Z β d v) : PE X e (xE X C W (.cst d)) := by
  refine h.imp fun σ H Q ⟨Φ, Z, β, ρ, U, rr, S, R, h, o⟩ => ?_
  rw [ev] at h
  cases h
  exact Done.same o R (r Z β)
theorem n_glo {d : D} {v : V} {x : String} (h : PE X e (tC v)) (r : ∀ Z β, RepV X.prog X.w X.K Z β d v) : PE X e (xE X C W (.glo x d)) := by
  refine h.imp fun σ H Q ⟨Φ, Z, β, ρ, U, rr, S, R, h, o⟩ => ?_
  rw [ev] at h
  cases h
  exact Done.same o R (r Z β)
theorem n_bin (op : BOp) (m : Bool) (ha : PE X e1 (xE X C W a)) (hb : PE X e2 (xE X C W b)) : PE X (.BinOp e1 (bop op) e2 pos) (xE X C W (.bin op m a b)) := by
  refine (pe_op (or_bin op m) ha hb).imp fun σ H Q ⟨Φ, Z, β, ρ, U, r, S, R, h, o⟩ => ?_
  rw [ev] at h
  refine tE_bnd S R h o.wish fun Z1 β1 H1 d v U1 z1 b1 R1 r1 S1 h1 => ?_
  refine tE_bnd S1 R1 h1 (o.monoE z1 b1).wish fun Z2 β2 H2 d2 v2 U2 z2 b2 R2 r2 S2 h2 => ?_
  obtain ⟨d3, U3, rfl⟩ := must h2 fun x V => binop_ok
  exact ⟨Φ, Z2, β2, U2, d, d2, d3, U3, R2, RepV.mono z2 b2 r1, r2, h2, ((o.monoE z1 b1).monoE z2 b2)⟩
theorem n_neg (ha : PE X e1 (xE X C W a)) : PE X (.UnaryOp .USub e1 pos) (xE X C W (.neg a)) := by
  refine (pe_un un_neg ha).imp fun σ H Q ⟨Φ, Z, β, ρ, U, r, S, R, h, o⟩ => ?_
  rw [ev] at h
  refine tE_bnd S R h o.wish fun Z1 β1 H1 d v U1 z1 b1 R1 r1 S1 h1 => ?_
  split at h1
  · rename_i i
    cases h1
    simp only [RepV] at r1
    exact ⟨i, r1, Done.int ((o.monoE z1 b1)) R1⟩
  · cases h1
theorem n_cmp (hu : X.A.units + 65 < cLine) (op : COp) (ht : tame e2 = true) (ha : PE X e1 (xE X C W a)) (hb : PE X e2 (xE X C W b)) : PE X (.Compare e1 [cop op] [e2] pos) (xE X C W (.cmp op a b)) := by
  refine (pe_cmpR (or_cmp hu op) ha hb (marks_tame ht _)).imp fun σ H Q ⟨Φ, Z, β, ρ, U, r, S, R, h, o⟩ => ?_
  rw [ev] at h
  refine tE_bnd S R h o.wish fun Z1 β1 H1 d v U1 z1 b1 R1 r1 S1 h1 => ?_
  refine tE_bnd S1 R1 h1 (o.monoE z1 b1).wish fun Z2 β2 H2 d2 v2 U2 z2 b2 R2 r2 S2 h2 => ?_
  split at h2
  · rename_i k hk
    cases h2
    exact ⟨Φ, Z2, β2, U2, d, d2, k, R2, RepV.mono z2 b2 r1, r2, hk, Done.bl ((o.monoE z1 b1).monoE z2 b2) R2⟩
  · cases h2
theorem n_test (hd : ∀ ρ U, evB C a ρ U = bnd (ev C a ρ U) fun x U1 => tru x U1) (ht : ∀ whole, PySem.isTrue e X.env whole = (do let v ← whole; standAt e.pos; holding [v] (truthy v)))
    (ha : PE X e (xE X C W a)) : PT X e (xT X C W a) := by
  refine ⟨fun pins s σ H Q I ⟨Φ, Z, β, ρ, U, r, S, R, h, o⟩ => ?_⟩
  rw [hd] at h
  refine isTrue_plain (L2.thn (ha.run pins s σ H (fun x H' => ∃ Z β U a k, Rel X.prog X.w X.K X.mg Φ Z β U H' ∧ RepV X.prog X.w X.K Z β a x ∧ truth U a = some k ∧ Q k H') I ?_) fun v s1 ⟨x, H1, I1, r1, Z1, β1, U1, a1, k, R1, p1, t1, q1⟩ => or_truth pins s1 σ H1 x v Q I1 r1 ⟨Φ, Z1, β1, U1, a1, k, R1, p1, t1, q1⟩) (ht _)
  refine tE_bnd S R h o.wish fun Z1 β1 H1 d v U1 z1 b1 R1 r1 S1 h1 => ?_
  unfold tru at h1
  split at h1
  · rename_i k hk
    cases h1
    exact ⟨Z1, β1, U1, d, k, R1, r1, hk, o.ok Z1 β1 H1 z1 b1 R1⟩
  · cases h1
/-- a comparison as a test -/
theorem n_cmpT (hu : X.A.units + 65 < cLine) (op : COp) (ht : tame e2 = true) (ha : PE X e1 (xE X C W a)) (hb : PE X e2 (xE X C W b)) : PT X (.Compare e1 [cop op] [e2] pos) (xT X C W (.cmp op a b)) := by
  refine (pt_cmpR (or_cmp hu op) ha hb (marks_tame ht _)).imp fun σ H Q ⟨Φ, Z, β, ρ, U, r, S, R, h, o⟩ => ?_
  have h : (bnd (ev C (.cmp op a b) ρ U) fun x U1 => tru x U1) = some r := by
    simpa only [evB] using h
  rw [ev] at h
  have e : ∀ (o1 : Option (VI.R D)) (f : D → M D) (g : D → M Bool), bnd (bnd o1 f) g = bnd o1 fun x U1 => bnd (f x U1) g := by
    intro o1 f g
    cases o1 with
    | none => rfl
    | some r => cases r <;> rfl
  rw [e] at h
  refine tE_bnd S R h o.wish fun Z1 β1 H1 d v U1 z1 b1 R1 r1 S1 h1 => ?_
  rw [e] at h1
  refine tE_bnd S1 R1 h1 (o.monoT z1 b1).wish fun Z2 β2 H2 d2 v2 U2 z2 b2 R2 r2 S2 h2 => ?_
  split at h2
  · rename_i k hk
    simp only [bnd_ok, tru, truth] at h2
    cases h2
    exact ⟨Φ, Z2, β2, U2, d, d2, k, R2, RepV.mono z2 b2 r1, r2, hk, k, rfl, ((o.monoT z1 b1).monoT z2 b2).ok Z2 β2 H2 (ZLe.refl _) (BLe.refl _) R2⟩
  · cases h2
theorem marks2_tame {op op' : CmpOp} (ht : tame e3 = true) : lastMarks [op, op'] [e2, e3] = false := by
  unfold lastMarks
  unfold lastMarks
  exact marks_tame ht _
theorem n_cmp2 (hu : X.A.units + 65 < cLine) (op op' : COp) (ht : tame e3 = true) (ha : PE X e1 (xE X C W a)) (hb : PE X e2 (xE X C W b)) (hc : PE X e3 (xE X C W c)) : PE X (.Compare e1 [cop op, cop op'] [e2, e3] pos) (xE X C W (.cmp2 op op' a b c)) := by
  refine (pe_chain (or_cmp hu op) (or_cmp hu op') ha hb hc (marks2_tame ht)).imp fun σ H Q ⟨Φ, Z, β, ρ, U, r, S, R, h, o⟩ => ?_
  rw [ev] at h
  refine tE_bnd S R h o.wish fun Z1 β1 H1 d v U1 z1 b1 R1 r1 S1 h1 => ?_
  refine tE_bnd S1 R1 h1 (o.monoE z1 b1).wish fun Z2 β2 H2 d2 v2 U2 z2 b2 R2 r2 S2 h2 => ?_
  split at h2
  · rename_i k hk
    refine ⟨Φ, Z2, β2, U2, d, d2, k, R2, RepV.mono z2 b2 r1, r2, hk, k, rfl, ?_⟩
    cases k with
    | false =>
      rw [if_neg Bool.false_ne_true] at h2 ⊢
      cases h2
      exact Done.bl ((o.monoE z1 b1).monoE z2 b2) R2
    | true =>
      rw [if_pos rfl] at h2 ⊢
      refine tE_bnd S2 R2 h2 ((o.monoE z1 b1).monoE z2 b2).wish fun Z3 β3 H3 d3 v3 U3 z3 b3 R3 r3 S3 h3 => ?_
      split at h3
      · rename_i j hj
        cases h3
        exact ⟨Φ, Z3, β3, U3, d2, d3, j, R3, RepV.mono z3 b3 r2, r3, hj, Done.bl (((o.monoE z1 b1).monoE z2 b2).monoE z3 b3) R3⟩
      · cases h3
  · cases h2
theorem n_cmp2T (hu : X.A.units + 65 < cLine) (op op' : COp) (ht : tame e3 = true) (ha : PE X e1 (xE X C W a)) (hb : PE X e2 (xE X C W b)) (hc : PE X e3 (xE X C W c)) : PT X (.Compare e1 [cop op, cop op'] [e2, e3] pos) (xT X C W (.cmp2 op op' a b c)) := by
  refine (pt_chain (or_cmp hu op) (or_cmp hu op') ha hb hc (marks2_tame ht)).imp fun σ H Q ⟨Φ, Z, β, ρ, U, r, S, R, h, o⟩ => ?_
  have h : (bnd (ev C (.cmp2 op op' a b c) ρ U) fun x U1 => tru x U1) = some r := by
    simpa only [evB] using h
  rw [ev] at h
  have e : ∀ (o1 : Option (VI.R D)) (f : D → M D) (g : D → M Bool), bnd (bnd o1 f) g = bnd o1 fun x U1 => bnd (f x U1) g := by
    intro o1 f g
    cases o1 with
    | none => rfl
    | some r => cases r <;> rfl
  rw [e] at h
  refine tE_bnd S R h o.wish fun Z1 β1 H1 d v U1 z1 b1 R1 r1 S1 h1 => ?_
  rw [e] at h1
  refine tE_bnd S1 R1 h1 (o.monoT z1 b1).wish fun Z2 β2 H2 d2 v2 U2 z2 b2 R2 r2 S2 h2 => ?_
  split at h2
  · rename_i k hk
    refine ⟨Φ, Z2, β2, U2, d, d2, k, R2, RepV.mono z2 b2 r1, r2, hk, k, rfl, ?_⟩
    cases k with
    | false =>
      rw [if_neg Bool.false_ne_true] at h2 ⊢
      simp only [bnd_ok, tru, truth] at h2
      cases h2
      exact ⟨false, rfl, ((o.monoT z1 b1).monoT z2 b2).ok Z2 β2 H2 (ZLe.refl _) (BLe.refl _) R2⟩
    | true =>
      rw [if_pos rfl] at h2 ⊢
      rw [e] at h2
      refine tE_bnd S2 R2 h2 ((o.monoT z1 b1).monoT z2 b2).wish fun Z3 β3 H3 d3 v3 U3 z3 b3 R3 r3 S3 h3 => ?_
      split at h3
      · rename_i j hj
        simp only [bnd_ok, tru, truth] at h3
        cases h3
        exact ⟨Φ, Z3, β3, U3, d2, d3, j, R3, RepV.mono z3 b3 r2, r3, hj, j, rfl, (((o.monoT z1 b1).monoT z2 b2).monoT z3 b3).ok Z3 β3 H3 (ZLe.refl _) (BLe.refl _) R3⟩
      · cases h3
  · cases h2
/-! ### and, or, not; a if t else b -/
theorem n_and {es : List Expr} (ha : PE X e1 (xE X C W a)) (hb : PE X (.BoolOp .And (e2 :: es) pos) (xE X C W b)) : PE X (.BoolOp .And (e1 :: e2 :: es) pos) (xE X C W (.andE a b)) := by
  refine (pe_and ha hb).imp fun σ H Q ⟨Φ, Z, β, ρ, U, r, S, R, h, o⟩ => ?_
  rw [ev] at h
  refine tE_bnd S R h o.wish fun Z1 β1 H1 d v U1 z1 b1 R1 r1 S1 h1 => ?_
  split at h1
  · rename_i k
    simp only [RepV] at r1
    refine ⟨k, r1, ?_⟩
    cases k with
    | true => exact ⟨Φ, Z1, β1, ρ, U1, r, S1, R1, by simpa using h1, o.monoE z1 b1⟩
    | false =>
      simp only [Bool.false_eq_true, if_false] at h1 ⊢
      cases h1
      exact Done.bl (o.monoE z1 b1) R1
  · cases h1
theorem n_or {es : List Expr} (ha : PE X e1 (xE X C W a)) (hb : PE X (.BoolOp .Or (e2 :: es) pos) (xE X C W b)) : PE X (.BoolOp .Or (e1 :: e2 :: es) pos) (xE X C W (.orE a b)) := by
  refine (pe_or ha hb).imp fun σ H Q ⟨Φ, Z, β, ρ, U, r, S, R, h, o⟩ => ?_
  rw [ev] at h
  refine tE_bnd S R h o.wish fun Z1 β1 H1 d v U1 z1 b1 R1 r1 S1 h1 => ?_
  split at h1
  · rename_i k
    simp only [RepV] at r1
    refine ⟨k, r1, ?_⟩
    cases k with
    | false => exact ⟨Φ, Z1, β1, ρ, U1, r, S1, R1, by simpa using h1, o.monoE z1 b1⟩
    | true =>
      simp only [if_true] at h1 ⊢
      cases h1
      exact Done.bl (o.monoE z1 b1) R1
  · cases h1
theorem n_not (ha : PE X e1 (xE X C W a)) : PE X (.UnaryOp .Not e1 pos) (xE X C W (.notE a)) := by
  refine (pe_not ha).imp fun σ H Q ⟨Φ, Z, β, ρ, U, r, S, R, h, o⟩ => ?_
  rw [ev] at h
  refine tE_bnd S R h o.wish fun Z1 β1 H1 d v U1 z1 b1 R1 r1 S1 h1 => ?_
  split at h1
  · rename_i k
    simp only [RepV] at r1
    cases h1
    exact ⟨k, r1, Done.bl (o.monoE z1 b1) R1⟩
  · cases h1
/-- a test of and, or is one whatever its whole is -/
theorem pw_of {op : PySem.BoolOp} {es : List Expr} {t : TT} (h : PT X (.BoolOp op es pos) t) : PW X (.BoolOp op es pos) t := by
  refine ⟨fun whole pins s σ H Q I q => ?_⟩
  have e : PySem.isTrue (.BoolOp op es pos) X.env whole = PySem.isTrue (.BoolOp op es pos) X.env (eval (.BoolOp op es pos) X.env) := by
    simp only [PySem.isTrue]
  rw [e]
  exact h.run pins s σ H Q I q
theorem n_andT {es : List Expr} (ha : PT X e1 (xT X C W a)) (hb : PW X (.BoolOp .And (e2 :: es) pos) (xT X C W b)) : PT X (.BoolOp .And (e1 :: e2 :: es) pos) (xT X C W (.andE a b)) := by
  refine (pw_and ha hb).pt.imp fun σ H Q ⟨Φ, Z, β, ρ, U, r, S, R, h, o⟩ => ?_
  rw [evB] at h
  refine tT_bnd S R h o.wish fun Z1 β1 H1 k U1 z1 b1 R1 S1 h1 => ?_
  cases k with
  | true =>
    simp only [if_true] at h1 ⊢
    exact ⟨Φ, Z1, β1, ρ, U1, r, S1, R1, h1, o.monoT z1 b1⟩
  | false =>
    simp only [Bool.false_eq_true, if_false] at h1 ⊢
    cases h1
    exact (o.monoT z1 b1).ok Z1 β1 H1 (ZLe.refl _) (BLe.refl _) R1
theorem n_orT {es : List Expr} (ha : PT X e1 (xT X C W a)) (hb : PW X (.BoolOp .Or (e2 :: es) pos) (xT X C W b)) : PT X (.BoolOp .Or (e1 :: e2 :: es) pos) (xT X C W (.orE a b)) := by
  refine (pw_or ha hb).pt.imp fun σ H Q ⟨Φ, Z, β, ρ, U, r, S, R, h, o⟩ => ?_
  rw [evB] at h
  refine tT_bnd S R h o.wish fun Z1 β1 H1 k U1 z1 b1 R1 S1 h1 => ?_
  cases k with
  | false =>
    simp only [Bool.false_eq_true, if_false] at h1 ⊢
    exact ⟨Φ, Z1, β1, ρ, U1, r, S1, R1, h1, o.monoT z1 b1⟩
  | true =>
    simp only [if_true] at h1 ⊢
    cases h1
    exact (o.monoT z1 b1).ok Z1 β1 H1 (ZLe.refl _) (BLe.refl _) R1
theorem n_notT (ha : PT X e1 (xT X C W a)) : PT X (.UnaryOp .Not e1 pos) (xT X C W (.notE a)) := by
  refine (pt_not ha).imp fun σ H Q ⟨Φ, Z, β, ρ, U, r, S, R, h, o⟩ => ?_
  rw [evB] at h
  refine tT_bnd S R h o.wish fun Z1 β1 H1 k U1 z1 b1 R1 S1 h1 => ?_
  cases h1
  exact (o.monoT z1 b1).ok Z1 β1 H1 (ZLe.refl _) (BLe.refl _) R1
theorem n_ite (ht : PT X e1 (xT X C W a)) (ha : PE X e2 (xE X C W b)) (hb : PE X e3 (xE X C W c)) : PE X (.IfExp e1 e2 e3 pos) (xE X C W (.ite a b c)) := by
  refine (pe_ifExp ht ha hb).imp fun σ H Q ⟨Φ, Z, β, ρ, U, r, S, R, h, o⟩ => ?_
  rw [ev] at h
  refine tT_bnd S R h o.wish fun Z1 β1 H1 k U1 z1 b1 R1 S1 h1 => ?_
  cases k with
  | false =>
    simp only [Bool.false_eq_true, if_false] at h1 ⊢
    exact ⟨Φ, Z1, β1, ρ, U1, r, S1, R1, h1, o.monoE z1 b1⟩
  | true =>
    simp only [if_true] at h1 ⊢
    exact ⟨Φ, Z1, β1, ρ, U1, r, S1, R1, h1, o.monoE z1 b1⟩
/-! ### lists of expressions, displays -/
def IEs.len : IEs → Nat
  | .nil => 0
  | .cons _ r => r.len + 1
theorem evs_len : ∀ {es : IEs} {ρ : Rho} {U U' : Store} {ds : List D}, evs C es ρ U = some (.ok ds U') → ds.length = es.len
  | .nil, ρ, U, U', ds, h => by
    rw [evs] at h
    cases h
    rfl
  | .cons e r, ρ, U, U', ds, h => by
    rw [evs] at h
    cases q : ev C e ρ U with
    | none => rw [q] at h; cases h
    | some r1 =>
      rw [q] at h
      cases r1 with
      | ex x V => cases h
      | ok d V =>
        rw [bnd_ok] at h
        cases q2 : evs C r ρ V with
        | none => rw [q2] at h; cases h
        | some r2 =>
          rw [q2] at h
          cases r2 with
          | ex x V => cases h
          | ok ds2 V2 =>
            cases h
            simp [IEs.len, evs_len q2]
theorem n_nil : PA X [] (xA X C W .nil) := by
  refine ⟨fun pos pins s σ H Q I ⟨Φ, Z, β, ρ, U, r, S, R, h, o⟩ => pa_nil.run pos pins s σ H Q I ?_⟩
  rw [evs] at h
  cases h
  exact o.ok Z β H [] (ZLe.refl _) (BLe.refl _) R RepL.nil
theorem n_cons {es : List Expr} {as : IEs} (ht : tame e = true) (ha : PE X e (xE X C W a)) (hb : PA X es (xA X C W as)) : PA X (e :: es) (xA X C W (.cons a as)) := by
  refine ⟨fun pos pins s σ H Q I ⟨Φ, Z, β, ρ, U, r, S, R, h, o⟩ => (pa_cons ha hb (star_tame ht es X.env)).run pos pins s σ H Q I ?_⟩
  rw [evs] at h
  refine tE_bnd S R h o.wish fun Z1 β1 H1 d v U1 z1 b1 R1 r1 S1 h1 => ?_
  refine tA_bnd S1 R1 h1 (o.monoL z1 b1).wish fun Z2 β2 H2 ds vs U2 z2 b2 R2 r2 S2 h2 => ?_
  cases h2
  exact ((o.monoL z1 b1).monoL z2 b2).ok Z2 β2 H2 (v :: vs) (ZLe.refl _) (BLe.refl _) R2 (RepL.cons (RepV.mono z2 b2 r1) r2)
theorem n_tup {es : List Expr} {as : IEs} {k : Nat} (hl : as.len ≤ 1000) (ha : PA X es (xA X C W as)) : PE X (.Tuple es k pos) (xE X C W (.tup as)) := by
  refine (pe_tup ha).imp fun σ H Q ⟨Φ, Z, β, ρ, U, r, S, R, h, o⟩ => ?_
  rw [ev] at h
  cases q : evs C as ρ U with
  | none => rw [q] at h; cases h
  | some r1 =>
    rw [q] at h
    refine ⟨Φ, Z, β, ρ, U, r1, S, R, q, ?_⟩
    cases r1 with
    | ex x V =>
      cases h
      exact o
    | ok ds V =>
      cases h
      intro Z1 β1 H1 vs z1 b1 R1 r1
      refine ⟨?_, fun p hp => Done.tup (Done.mono o z1 b1) R1 r1 hp⟩
      rw [← r1.length, evs_len q, sizeLine_eq]
      omega
theorem n_lst {es : List Expr} {as : IEs} {m : Bool} (hl : as.len ≤ 1000) (ha : PA X es (xA X C W as)) : PE X (.List es pos) (xE X C W (.lst m as)) := by
  refine (pe_lst ha).imp fun σ H Q ⟨Φ, Z, β, ρ, U, r, S, R, h, o⟩ => ?_
  rw [ev] at h
  cases q : evs C as ρ U with
  | none => rw [q] at h; cases h
  | some r1 =>
    rw [q] at h
    refine ⟨Φ, Z, β, ρ, U, r1, S, R, q, ?_⟩
    cases r1 with
    | ex x V =>
      cases h
      exact o
    | ok ds V =>
      rw [bnd_ok] at h
      obtain ⟨d3, U3, rfl⟩ := must h fun x V => mkL_ok
      intro Z1 β1 H1 vs z1 b1 R1 r1
      refine ⟨?_, fun p hp => Done.lst (Done.mono o z1 b1) R1 h r1 hp⟩
      rw [← r1.length, evs_len q, sizeLine_eq]
      omega
/-! ### items, slices -/
theorem n_idx (hu : X.A.units + 64 < cLine) (ht : tame e2 = true) (ha : PE X e1 (xE X C W a)) (hb : PE X e2 (xE X C W b)) : PE X (.Subscript e1 e2 pos) (xE X C W (.idx a b)) := by
  refine (pe_ix (ix_all hu) ha hb (ix_tame ht)).imp fun σ H Q ⟨Φ, Z, β, ρ, U, r, S, R, h, o⟩ => ?_
  rw [ev] at h
  refine tE_bnd S R h o.wish fun Z1 β1 H1 d v U1 z1 b1 R1 r1 S1 h1 => ?_
  refine tE_bnd S1 R1 h1 (o.monoE z1 b1).wish fun Z2 β2 H2 d2 v2 U2 z2 b2 R2 r2 S2 h2 => ?_
  obtain ⟨d3, U3, rfl⟩ := must h2 fun x V => index1_ok
  exact ⟨Φ, Z2, β2, U2, d, d2, d3, U3, R2, RepV.mono z2 b2 r1, r2, h2, ((o.monoE z1 b1).monoE z2 b2)⟩
/-- a part of a slice -/
def xO (X : Cx) (C : Cal) (W : WX) (e : IE) : TO := fun σ H Q => ∃ Φ Z β ρ U r, RepS X.prog X.w X.K Z β ρ σ ∧ Rel X.prog X.w X.K X.mg Φ Z β U H ∧ ev C e ρ U = some r ∧
  Out X.prog X.w X.K X.mg W Φ Z β σ (fun d U' => ∃ o, bnd? d = some o ∧ DoneB X.prog X.w X.K X.mg Φ Z β U' (Q o)) r
theorem n_none : PO X none (xO X C W (.cst .non)) := by
  refine ⟨fun pins s σ H Q I ⟨Φ, Z, β, ρ, U, r, S, R, h, o⟩ => po_none.run pins s σ H Q I ?_⟩
  rw [ev] at h
  cases h
  obtain ⟨o1, e1, q⟩ := o.ok
  cases e1
  exact q Z β H (ZLe.refl _) (BLe.refl _) R
theorem n_some (ha : PE X e (xE X C W a)) : PO X (some e) (xO X C W a) := by
  refine ⟨fun pins s σ H Q I ⟨Φ, Z, β, ρ, U, r, S, R, h, o⟩ => ?_⟩
  rw [evalPart_some]
  refine L2.thn (ha.run pins s σ H (fun v H' => (v = .non ∧ Q none H') ∨ ∃ i, v = .int i ∧ Q (some i) H') I ⟨Φ, Z, β, ρ, U, r, S, R, h, ?_⟩) fun u s1 ⟨x, H1, I1, r1, q1⟩ => ?_
  · cases r with
    | ex x V => exact o
    | ok d V =>
      obtain ⟨o1, e1, q⟩ := o.ok
      intro Z1 β1 H1 v z1 b1 R1 r1
      cases d with
      | non =>
        cases e1
        simp only [RepV] at r1
        exact .inl ⟨r1, q Z1 β1 H1 z1 b1 R1⟩
      | int i =>
        cases e1
        simp only [RepV] at r1
        exact .inr ⟨i, r1, q Z1 β1 H1 z1 b1 R1⟩
      | _ => cases e1
  · rcases q1 with ⟨rfl, q⟩ | ⟨i, rfl, q⟩
    · cases r1
      exact ⟨none, H1, I1, .none, q⟩
    · obtain ⟨t, rfl⟩ := r1
      exact ⟨some i, H1, I1, .int i t, q⟩
theorem n_slc {m : Bool} {lo hi : Option Expr} {p2 : Pos} (ha : PE X e1 (xE X C W a)) (hb : PO X lo (xO X C W b)) (hc : PO X hi (xO X C W c)) : PE X (.Subscript e1 (.Slice lo hi none p2) pos) (xE X C W (.slc m a b c)) := by
  refine (pe_slice (sl_all m) ha hb hc).imp fun σ H Q ⟨Φ, Z, β, ρ, U, r, S, R, h, o⟩ => ?_
  rw [ev] at h
  refine tE_bnd S R h o.wish fun Z1 β1 H1 d v U1 z1 b1 R1 r1 S1 h1 => ?_
  cases q1 : ev C b ρ U1 with
  | none => rw [q1] at h1; cases h1
  | some g1 =>
    rw [q1] at h1
    refine ⟨Φ, Z1, β1, ρ, U1, g1, S1, R1, q1, ?_⟩
    cases g1 with
    | ex x V =>
      cases h1
      exact (o.monoE z1 b1)
    | ok dl V =>
      rw [bnd_ok] at h1
      split at h1
      rotate_left
      · cases h1
      rename_i hl0
      have hl1 := Option.isSome_iff_exists.mp hl0
      cases q2 : ev C c ρ V with
      | none => rw [q2] at h1; cases h1
      | some g2 =>
        rw [q2] at h1
        cases g2 with
        | ex x V2 =>
          cases h1
          obtain ⟨l, el⟩ := hl1
          exact ⟨l, el, fun Z2 β2 H2 z2 b2 R2 => ⟨Φ, Z2, β2, ρ, V, .ex x V2, S1.mono z2 b2, R2, q2, (o.monoE z1 b1).monoE z2 b2⟩⟩
        | ok dh V2 =>
          rw [bnd_ok] at h1
          obtain ⟨d3, U3, rfl⟩ := must h1 fun x V => slice1_ok
          have hl : (∃ o, bnd? dl = some o) ∧ ∃ o, bnd? dh = some o := by
            unfold slice1 at h1
            split at h1
            · exact ⟨⟨_, by assumption⟩, ⟨_, by assumption⟩⟩
            · cases h1
          obtain ⟨⟨l, el⟩, u, eu⟩ := hl
          refine ⟨l, el, fun Z2 β2 H2 z2 b2 R2 => ⟨Φ, Z2, β2, ρ, V, .ok dh V2, S1.mono z2 b2, R2, q2, u, eu, fun Z3 β3 H3 z3 b3 R3 => ?_⟩⟩
          exact ⟨Φ, Z3, β3, V2, d, dl, dh, d3, U3, R3, RepV.mono (z2.trans z3) (b2.trans b3) r1, el, eu, h1, ((o.monoE z1 b1).monoE z2 b2).monoE z3 b3⟩
end
end VI

/-! VIc3: calls. -/
namespace VI
open PySem PySem.Spec PyProof.Rows L2
section
variable {P : Program} {w : World} {K : PySem.W.Frag} {Z₀ Z' : Hp} {β β' : List Addr}
mutual
/-- what once stood in less needs no more -/
theorem RepV.cutB (b : BLe β β') : ∀ {d : D} {v₀ v : V}, RepV P w K Z₀ β d v₀ → RepV P w K Z' β' d v → RepV P w K Z' β d v
  | .non, _, _, _, h => by simp only [RepV] at h ⊢; exact h
  | .bl _, _, _, _, h => by simp only [RepV] at h ⊢; exact h
  | .int _, _, _, _, h => by simp only [RepV] at h ⊢; exact h
  | .str _, _, _, _, h => by simp only [RepV] at h ⊢; exact h
  | .exn _ _, _, _, h₀, _ => by simp only [RepV] at h₀
  | .tup xs, v₀, v, h₀, h => by
    simp only [RepV] at h₀ h ⊢
    obtain ⟨_, vs₀, _, _, q₀⟩ := h₀
    obtain ⟨a, vs, e, s, q⟩ := h
    exact ⟨a, vs, e, s, RepL.cutB b q₀ q⟩
  | .lst xs, v₀, v, h₀, h => by
    simp only [RepV] at h₀ h ⊢
    obtain ⟨_, vs₀, _, _, q₀⟩ := h₀
    obtain ⟨a, vs, e, s, q⟩ := h
    exact ⟨a, vs, e, s, RepL.cutB b q₀ q⟩
  | .dct t kvs, v₀, v, h₀, h => by
    simp only [RepV] at h₀ h ⊢
    obtain ⟨_, _, q₀⟩ := h₀
    obtain ⟨a, e, q⟩ := h
    refine ⟨a, e, ?_⟩
    rcases q with ⟨t0, l, e1, q⟩ | ⟨t1, l, e1, nd, q⟩
    · rcases q₀ with ⟨_, l₀, _, q₀⟩ | ⟨t1, _⟩
      · exact .inl ⟨t0, l, e1, RepK.cutB b q₀ q⟩
      · rw [t0] at t1; cases t1
    · rcases q₀ with ⟨t0, _⟩ | ⟨_, l₀, _, _, q₀⟩
      · rw [t0] at t1; cases t1
      · exact .inr ⟨t1, l, e1, nd, RepT.cutB b q₀ q⟩
  | .ref n, v₀, v, h₀, h => by
    simp only [RepV] at h₀ h ⊢
    obtain ⟨a₀, _, e₀⟩ := h₀
    obtain ⟨a, e, e1⟩ := h
    rw [b.get e₀] at e1
    cases e1
    exact ⟨a₀, e, e₀⟩
theorem RepL.cutB (b : BLe β β') : ∀ {d : List D} {v₀ v : List V}, RepL P w K Z₀ β d v₀ → RepL P w K Z' β' d v → RepL P w K Z' β d v
  | [], _, _, _, h => by simp only [RepL] at h ⊢; exact h
  | x :: r, v₀, v, h₀, h => by
    simp only [RepL] at h₀ h ⊢
    obtain ⟨_, _, _, p₀, q₀⟩ := h₀
    obtain ⟨v, s, e, p, q⟩ := h
    exact ⟨v, s, e, RepV.cutB b p₀ p, RepL.cutB b q₀ q⟩
theorem RepK.cutB (b : BLe β β') : ∀ {d : List (D × D)} {v₀ v : List (Key × V)}, RepK P w K Z₀ β d v₀ → RepK P w K Z' β' d v → RepK P w K Z' β d v
  | [], _, _, _, h => by simp only [RepK] at h ⊢; exact h
  | (k, x) :: r, v₀, v, h₀, h => by
    simp only [RepK] at h₀ h ⊢
    obtain ⟨_, _, _, _, _, p₀, q₀⟩ := h₀
    obtain ⟨kk, v, s, e, hk, p, q⟩ := h
    exact ⟨kk, v, s, e, hk, RepV.cutB b p₀ p, RepK.cutB b q₀ q⟩
theorem RepT.cutB (b : BLe β β') : ∀ {d : List (D × D)} {v₀ v : List (NestedKey × Addr × Value)}, RepT P w K Z₀ β d v₀ → RepT P w K Z' β' d v → RepT P w K Z' β d v
  | [], _, _, _, h => by simp only [RepT] at h ⊢; exact h
  | (k, x) :: r, v₀, v, h₀, h => by
    simp only [RepT] at h₀ h ⊢
    obtain ⟨_, _, _, _, _, _, k₀, _, p₀, q₀⟩ := h₀
    obtain ⟨c, u, v, s, e, hk, rk, ru, p, q⟩ := h
    exact ⟨c, u, v, s, e, hk, RepV.cutB b k₀ rk, ru, RepV.cutB b p₀ p, RepT.cutB b q₀ q⟩
end
theorem RepF.cutB (b : BLe β β') : ∀ {d : List (String × D)} {v₀ v : List (Str × V)}, RepF P w K Z₀ β d v₀ → RepF P w K Z' β' d v → RepF P w K Z' β d v
  | [], _, _, _, h => h
  | (k, x) :: r, v₀, v, h₀, h => by
    obtain ⟨_, _, _, _, p₀, q₀⟩ := h₀
    obtain ⟨hf, v, s, e, p, q⟩ := h
    exact ⟨hf, v, s, e, RepV.cutB b p₀ p, RepF.cutB b q₀ q⟩
theorem RepO.cutB {mg : Str → Option Value} {H H' : Hp} (b : BLe β β') {o : MO} {a a' : Addr} (h₀ : RepO P w K mg Z₀ β H o a) (h : RepO P w K mg Z' β' H' o a') : RepO P w K mg Z' β H' o a' := by
  cases o with
  | lst xs =>
    obtain ⟨vs₀, _, q₀⟩ := h₀
    obtain ⟨vs, e, q⟩ := h
    exact ⟨vs, e, q₀.cutB b q⟩
  | dct t kvs =>
    rcases h with ⟨t0, l, e1, q⟩ | ⟨t1, l, e1, nd, q⟩
    · rcases h₀ with ⟨_, l₀, _, q₀⟩ | ⟨t1, _⟩
      · exact .inl ⟨t0, l, e1, RepK.cutB b q₀ q⟩
      · rw [t0] at t1; cases t1
    · rcases h₀ with ⟨t0, _⟩ | ⟨_, l₀, _, _, q₀⟩
      · rw [t0] at t1; cases t1
      · exact .inr ⟨t1, l, e1, nd, RepT.cutB b q₀ q⟩
  | ins c fs =>
    obtain ⟨_, _, l₀, _, _, q₀⟩ := h₀
    obtain ⟨C, dx, l, e1, e2, q⟩ := h
    exact ⟨C, dx, l, e1, e2, q₀.cutB b q⟩
end
section
variable {P : Program} {w : World} {K : PySem.W.Frag} {mg : Str → Option Value} {Φ : List (Addr × HO)} {Z Z' : Hp} {β β' : List Addr} {U V : Store} {H H' : Hp}
open Classical in
/-- what a call made, taken as frozen -/
noncomputable def frzZ (Z' : Hp) (β' : List Addr) (n : Nat) (H' : Hp) : Hp := fun a => if a ∈ β'.drop n then H' a else Z' a
theorem Rel.frz (R : Rel P w K mg Φ Z β U H) (b : BLe β β') (R' : Rel P w K mg Φ Z' β' V H') (hV : V.take U.length = U) :
    Rel P w K mg Φ (frzZ Z' β' U.length H') β U H' ∧ ZLe Z' (frzZ Z' β' U.length H') := by
  have le : ZLe Z' (frzZ Z' β' U.length H') := fun a o e => by
    unfold frzZ
    rw [if_neg (fun hm => by
      have := R'.sep a (List.mem_of_mem_drop hm)
      rw [this] at e
      cases e)]
    exact e
  obtain ⟨γ, hγ⟩ := b
  have hd : β'.drop U.length = γ := by
    rw [hγ, ← R.len, List.drop_left]
  have hβ : ∀ a ∈ β, a ∉ β'.drop U.length := fun a ha hm => by
    rw [hd] at hm
    have nd := R'.nd
    rw [hγ, List.nodup_append] at nd
    exact nd.2.2 a ha a hm rfl
  refine ⟨⟨fun a o e => ?_, R.len, R.nd, fun a ha => ?_, fun n o a e1 e2 => ?_, fun q hq => ?_⟩, le⟩
  · unfold frzZ at e
    split at e
    · exact e
    · exact R'.zle a o e
  · unfold frzZ
    rw [if_neg (hβ a ha)]
    exact R'.sep a (by rw [hγ]; exact List.mem_append_left _ ha)
  · have e3 : V[n]? = some o := by
      rw [← hV] at e1
      rw [List.getElem?_take] at e1
      split at e1
      · exact e1
      · cases e1
    have e4 : β'[n]? = some a := BLe.get ⟨γ, hγ⟩ e2
    have h1 := R'.obj n o a e3 e4
    have h2 := R.obj n o a e1 e2
    exact (RepO.cutB ⟨γ, hγ⟩ h2 h1).mono le (BLe.refl β) rfl
  · obtain ⟨q1, q2, q3⟩ := R'.ext q hq
    refine ⟨q1, ?_, (R.ext q hq).2.2⟩
    unfold frzZ
    rw [if_neg fun hm => q3 (List.mem_of_mem_drop hm)]
    exact q2
theorem done_frz {d d' : D} {Q : VK} (R : Rel P w K mg Φ Z β U H) (hV : V.take U.length = U) (hs : rs V U.length d = some d') (dn : Done P w K mg Φ Z β d' U Q) : Done P w K mg Φ Z β d V Q := fun Z' β' H' v z b R' r' => by
  obtain ⟨R2, z2⟩ := R.frz b R' hV
  refine dn _ β H' v (z.trans z2) (BLe.refl β) R2 ?_
  refine rsv_rep z2 (fun n a d' e1 e2 => ?_) hs r'
  refine subAt_rep R' z2 (fun n a hn e => ?_) (fun n a hn e => ?_) 8 _ _ _ e1 e2
  · unfold frzZ
    rw [if_pos]
    exact List.mem_drop_iff_getElem.mpr (by
      obtain ⟨h1, h2⟩ := List.getElem?_eq_some_iff.mp e
      exact ⟨n - U.length, by omega, by simp only [show U.length + (n - U.length) = n by omega]; exact h2⟩)
  · obtain ⟨γ, hγ⟩ := b
    rw [hγ, List.getElem?_append_left (by rw [R.len]; exact hn)] at e
    exact e
theorem doneX_frz {x : Ex} {E : XK} (R : Rel P w K mg Φ Z β U H) (hV : V.take U.length = U) (hp : flat x.p = true) (dn : DoneX P w K mg Φ Z β x U E) : DoneX P w K mg Φ Z β x V E := fun Z' β' H' C dx v z b R' hc r' hd => by
  obtain ⟨R2, z2⟩ := R.frz b R' hV
  refine dn _ β H' C dx v (z.trans z2) (BLe.refl β) R2 hc ?_ hd
  obtain ⟨c, p⟩ := x
  cases p <;> simp [flat] at hp <;> simp only [RepV] at r' ⊢ <;> exact r'
end
end VI

/-! VIc4: calls of defs. -/
namespace VI
open PySem PySem.Spec PyProof.Rows L2
/-- a def's promise by the evaluator -/
def spV (P : Program) (w : World) (K : PySem.W.Frag) (mg : Str → Option Value) (C : Cal) (f : String) : Sp := fun vs H Q E => ∃ Φ Z β U ds r, Rel P w K mg Φ Z β U H ∧ RepL P w K Z β ds vs ∧ C f ds U = some r ∧
  match r with
  | .ok d U' => Done P w K mg Φ Z β d U' Q
  | .ex x U' => DoneX P w K mg Φ Z β x U' E
/-- a def that may be called -/
def FnHyp (P : Program) (w : World) (K : PySem.W.Frag) (mg : Str → Option Value) (base : Heap) (C : Cal) (k : Nat) (f : String) : Prop :=
  ∃ (a : Addr) (fd : FuncData) (ps : List Str), mg (Str.ofString f) = some (.ref a) ∧ PySem.W.keepIn K (.ref a) = true ∧ FnOk P w K mg base (L2.CX P w) k a fd ps (spV P w K mg C f) ∧ Binds K fd ps []
section
variable {X : Cx} {C : Cal} {W : WX} {e e1 e2 e3 : Expr} {a b c : IE} {pos p : Pos} {es : List Expr} {as : IEs} {k : Nat} {f : String}
/-- what a call gives, by its promise -/
theorem sp_frz {P : Program} {w : World} {K : PySem.W.Frag} {mg : Str → Option Value} {Φ : List (Addr × HO)} {Z : Hp} {β : List Addr} {U : Store} {H : Hp} {C : Cal} {f : String} {ds : List D} {vs : List V} {Q : VK} {W : WX} {σ : L2.St} {fz : Bool} {r : VI.R D}
    (R : Rel P w K mg Φ Z β U H) (q : RepL P w K Z β ds vs) (h : VI.frz fz U (C f ds U) = some r) (o : Out P w K mg W Φ Z β σ (fun d U' => Done P w K mg Φ Z β d U' Q) r) : spV P w K mg C f vs H Q fun cls d H => W cls d σ H := by
  cases fz with
  | false =>
    unfold VI.frz at h
    rw [if_neg Bool.false_ne_true] at h
    refine ⟨Φ, Z, β, U, ds, r, R, q, h, ?_⟩
    cases r with
    | ok d U' => exact o
    | ex x U' => exact o
  | true =>
    unfold VI.frz at h
    rw [if_pos rfl] at h
    split at h
    · rename_i d V hc
      split at h
      · rename_i hV
        split at h
        · rename_i d' hs
          cases h
          exact ⟨Φ, Z, β, U, ds, _, R, q, hc, done_frz R hV hs o⟩
        · cases h
      · cases h
    · rename_i x V hc
      split at h
      · rename_i hV
        cases h
        exact ⟨Φ, Z, β, U, ds, _, R, q, hc, doneX_frz R hV.1 hV.2 o⟩
      · cases h
    · cases h
theorem n_call {fz : Bool} (tk : Takes X W) (hr : Room k X.A) (hg : Gl X (Str.ofString f)) (F : FnHyp X.prog X.w X.K X.mg X.base C k f) (hdb : (Str.ofString f == ("__debug__" : Str)) = false) (ht : (e :: es).all tame = true)
    (ha : PA X (e :: es) (xA X C W as)) : PE X (.Call (.Name (Str.ofString f) p) (e :: es) [] pos) (xE X C W (.call fz f as)) := by
  obtain ⟨a, fd, ps, hm, hk, F, hb⟩ := F
  simp only [List.all_cons, Bool.and_eq_true] at ht
  refine (pe_callS (E := WE W) F hr hg hm hk hb (passAt tk) ha hdb (star_tame ht.1 es _) (stars_tame ht.2 pos _)).imp fun σ H Q ⟨Φ, Z, β, ρ, U, r, S, R, h, o⟩ => ?_
  rw [ev] at h
  refine tA_bnd S R h o.wish fun Z1 β1 H1 ds vs U1 z1 b1 R1 r1 S1 h1 => ?_
  exact sp_frz R1 r1 h1 (o.monoE z1 b1)
theorem n_call0 {fz : Bool} (tk : Takes X W) (hr : Room k X.A) (hg : Gl X (Str.ofString f)) (F : FnHyp X.prog X.w X.K X.mg X.base C k f) (hdb : (Str.ofString f == ("__debug__" : Str)) = false) :
    PE X (.Call (.Name (Str.ofString f) p) [] [] pos) (xE X C W (.call fz f .nil)) := by
  obtain ⟨a, fd, ps, hm, hk, F, hb⟩ := F
  refine ⟨fun pins s σ H Q I ⟨Φ, Z, β, ρ, U, r, S, R, h, o⟩ => ?_⟩
  rw [ev, evs, bnd_ok] at h
  refine wpAny_Call_Name_kw (ld_glob I hg hm ?_ hdb)
  exact PySem.W.callWith_K0 I.kIn hk (run_fnS (us := []) F hr hb (passAt tk σ) I .nil (sp_frz (W := W) R RepL.nil h o))
end
/-! ### a def's body -/
section
variable (P : Program) (w : World) (K : PySem.W.Frag) (mg : Str → Option Value) (C : Cal) (W : WX)
/-- a statement's wish -/
def OutS (Φ : List (Addr × HO)) (Z : Hp) (β : List Addr) (E : Ends) (r : RS) : Prop :=
  match r with
  | .nx ρ U' => ∀ (Z' : Hp) (β' : List Addr) (H' : Hp) (σ' : L2.St), ZLe Z Z' → BLe β β' → Rel P w K mg Φ Z' β' U' H' → RepS P w K Z' β' ρ σ' → E.nx σ' H'
  | .bk ρ U' => ∀ (Z' : Hp) (β' : List Addr) (H' : Hp) (σ' : L2.St), ZLe Z Z' → BLe β β' → Rel P w K mg Φ Z' β' U' H' → RepS P w K Z' β' ρ σ' → E.bk σ' H'
  | .rt d U' => Done P w K mg Φ Z β d U' E.rt
  | .ex x ρ U' => ∀ (Z' : Hp) (β' : List Addr) (σ' : L2.St), ZLe Z Z' → BLe β β' → RepS P w K Z' β' ρ σ' → DoneX P w K mg Φ Z' β' x U' fun cls d H => W cls d σ' H
def tS (s : IS) : TS := fun E σ H => ∃ Φ Z β ρ U r, RepS P w K Z β ρ σ ∧ Rel P w K mg Φ Z β U H ∧ exec C s ρ U = some r ∧ OutS P w K mg W Φ Z β E r
def tSs (s : ISs) : TS := fun E σ H => ∃ Φ Z β ρ U r, RepS P w K Z β ρ σ ∧ Rel P w K mg Φ Z β U H ∧ execs C s ρ U = some r ∧ OutS P w K mg W Φ Z β E r
end
section
variable {P : Program} {w : World} {K : PySem.W.Frag} {mg : Str → Option Value} {C : Cal} {W : WX} {Φ : List (Addr × HO)} {Z Z' : Hp} {β β' : List Addr} {ρ : Rho} {σ : L2.St} {U : Store} {H : Hp} {E : Ends}
theorem OutS.mono {r : RS} (o : OutS P w K mg W Φ Z β E r) (z : ZLe Z Z') (b : BLe β β') : OutS P w K mg W Φ Z' β' E r := by
  cases r with
  | nx ρ U' => exact fun Z2 β2 H2 σ2 z2 b2 => o Z2 β2 H2 σ2 (z.trans z2) (b.trans b2)
  | bk ρ U' => exact fun Z2 β2 H2 σ2 z2 b2 => o Z2 β2 H2 σ2 (z.trans z2) (b.trans b2)
  | rt d U' => exact Done.mono o z b
  | ex x ρ U' => exact fun Z2 β2 σ2 z2 b2 => o Z2 β2 σ2 (z.trans z2) (b.trans b2)
/-- an expression, then the rest of a statement -/
theorem tE_bndS {e : IE} {f : D → Store → Option RS} {r : RS} {Q : VK} (S : RepS P w K Z β ρ σ) (R : Rel P w K mg Φ Z β U H) (h : bndS (ev C e ρ U) ρ f = some r) (o : OutS P w K mg W Φ Z β E r)
    (k : ∀ Z' β' H' d v U', ZLe Z Z' → BLe β β' → Rel P w K mg Φ Z' β' U' H' → RepV P w K Z' β' d v → RepS P w K Z' β' ρ σ → f d U' = some r → OutS P w K mg W Φ Z' β' E r → Q v H') : tE P w K mg C W e σ H Q := by
  cases q : ev C e ρ U with
  | none => rw [q] at h; cases h
  | some r1 =>
    rw [q] at h
    refine ⟨Φ, Z, β, ρ, U, r1, S, R, q, ?_⟩
    cases r1 with
    | ok d U' => exact fun Z' β' H' v z b R' r' => k Z' β' H' d v U' z b R' r' (S.mono z b) h (o.mono z b)
    | ex x U' =>
      cases h
      exact o Z β σ (ZLe.refl Z) (BLe.refl β) S
theorem tT_bndS {e : IE} {f : Bool → Store → Option RS} {r : RS} {Q : Bool → Hp → Prop} (S : RepS P w K Z β ρ σ) (R : Rel P w K mg Φ Z β U H) (h : bndS (evB C e ρ U) ρ f = some r) (o : OutS P w K mg W Φ Z β E r)
    (k : ∀ Z' β' H' d U', ZLe Z Z' → BLe β β' → Rel P w K mg Φ Z' β' U' H' → RepS P w K Z' β' ρ σ → f d U' = some r → OutS P w K mg W Φ Z' β' E r → Q d H') : tT P w K mg C W e σ H Q := by
  cases q : evB C e ρ U with
  | none => rw [q] at h; cases h
  | some r1 =>
    rw [q] at h
    refine ⟨Φ, Z, β, ρ, U, r1, S, R, q, ?_⟩
    cases r1 with
    | ok d U' => exact fun Z' β' H' z b R' => k Z' β' H' d U' z b R' (S.mono z b) h (o.mono z b)
    | ex x U' =>
      cases h
      exact o Z β σ (ZLe.refl Z) (BLe.refl β) S
end
section
variable {X : Cx} {C : Cal} {W : WX} {e e1 e2 e3 : Expr} {a b c : IE} {pos p : Pos} {st : Stmt} {sts sts2 : List Stmt} {s : IS} {ss ss2 : ISs}
abbrev xS (X : Cx) (C : Cal) (W : WX) (s : IS) : TS := tS X.prog X.w X.K X.mg C W s
abbrev xSs (X : Cx) (C : Cal) (W : WX) (s : ISs) : TS := tSs X.prog X.w X.K X.mg C W s
theorem _root_.L2.PS.imp {t t' : TS} (h : PS X st t) (i : ∀ E σ H, t' E σ H → t E σ H) : PS X st t' := ⟨fun pins s σ H E I q => h.run pins s σ H E I (i E σ H q)⟩
theorem _root_.L2.PSs.imp {t t' : TS} (h : PSs X sts t) (i : ∀ E σ H, t' E σ H → t E σ H) : PSs X sts t' := ⟨fun pins s σ H E I q => h.run pins s σ H E I (i E σ H q)⟩
theorem s_nil : PSs X [] (xSs X C W .nil) := by
  refine pss_nil.imp fun E σ H ⟨Φ, Z, β, ρ, U, r, S, R, h, o⟩ => ?_
  rw [execs] at h
  cases h
  exact o Z β H σ (ZLe.refl Z) (BLe.refl β) R S
theorem s_cons (h1 : PS X st (xS X C W s)) (h2 : PSs X sts (xSs X C W ss)) : PSs X (st :: sts) (xSs X C W (.cons s ss)) := by
  refine (pss_cons h1 h2).imp fun E σ H ⟨Φ, Z, β, ρ, U, r, S, R, h, o⟩ => ?_
  rw [execs] at h
  cases q : exec C s ρ U with
  | none => rw [q] at h; cases h
  | some r1 =>
    rw [q] at h
    refine ⟨Φ, Z, β, ρ, U, r1, S, R, q, ?_⟩
    cases r1 with
    | nx ρ1 U1 => exact fun Z1 β1 H1 σ1 z1 b1 R1 S1 => ⟨Φ, Z1, β1, ρ1, U1, r, S1, R1, h, o.mono z1 b1⟩
    | rt d U1 => cases h; exact o
    | bk ρ1 U1 => cases h; exact o
    | ex x ρ1 U1 => cases h; exact o
/-- a docstring ahead -/
theorem s_doc {x : Str} {j : Nat} {pos' : Pos} (h : PSs X sts (xSs X C W ss)) : PSs X (.Expr (.Constant (.str x) j pos) pos' :: sts) (xSs X C W ss) := (pss_cons ps_doc h).imp fun E σ H q => q
theorem s_pass : PS X (.Pass pos) (xS X C W .pass) := by
  refine ps_pass.imp fun E σ H ⟨Φ, Z, β, ρ, U, r, S, R, h, o⟩ => ?_
  rw [exec] at h
  cases h
  exact o Z β H σ (ZLe.refl Z) (BLe.refl β) R S
theorem s_brk : PS X (.Break pos) (xS X C W .brk) := by
  refine ps_break.imp fun E σ H ⟨Φ, Z, β, ρ, U, r, S, R, h, o⟩ => ?_
  rw [exec] at h
  cases h
  exact o Z β H σ (ZLe.refl Z) (BLe.refl β) R S
theorem s_expr (hn : noComp e = true) (ha : PE X e (xE X C W a)) : PS X (.Expr e pos) (xS X C W (.expr a)) := by
  refine (ps_expr ha (swaps_no hn _ _ _)).imp fun E σ H ⟨Φ, Z, β, ρ, U, r, S, R, h, o⟩ => ?_
  rw [exec] at h
  refine tE_bndS S R h o fun Z1 β1 H1 d v U1 z1 b1 R1 r1 S1 h1 o1 => ?_
  cases h1
  exact o1 Z1 β1 H1 σ (ZLe.refl _) (BLe.refl _) R1 S1
theorem s_ret (ha : PE X e (xE X C W a)) : PS X (.Return (some e) pos) (xS X C W (.ret a)) := by
  refine (ps_ret ha).imp fun E σ H ⟨Φ, Z, β, ρ, U, r, S, R, h, o⟩ => ?_
  rw [exec] at h
  refine tE_bndS S R h o fun Z1 β1 H1 d v U1 z1 b1 R1 r1 S1 h1 o1 => ?_
  cases h1
  exact Done.same o1 R1 r1
theorem s_retN : PS X (.Return none pos) (xS X C W .retN) := by
  refine ps_retN.imp fun E σ H ⟨Φ, Z, β, ρ, U, r, S, R, h, o⟩ => ?_
  rw [exec] at h
  cases h
  exact Done.non o R
theorem s_if (ht : PT X e (xT X C W a)) (h1 : PSs X sts (xSs X C W ss)) (h2 : PSs X sts2 (xSs X C W ss2)) : PS X (.If e sts sts2 pos) (xS X C W (.ifS a ss ss2)) := by
  refine (ps_if ht h1 h2).imp fun E σ H ⟨Φ, Z, β, ρ, U, r, S, R, h, o⟩ => ?_
  rw [exec] at h
  refine tT_bndS S R h o fun Z1 β1 H1 k U1 z1 b1 R1 S1 h1 o1 => ?_
  cases k with
  | true =>
    simp only [if_true] at h1 ⊢
    exact ⟨Φ, Z1, β1, ρ, U1, r, S1, R1, h1, o1⟩
  | false =>
    simp only [Bool.false_eq_true, if_false] at h1 ⊢
    exact ⟨Φ, Z1, β1, ρ, U1, r, S1, R1, h1, o1⟩
theorem s_while (hp : PassesOwn (model X.prog X.w) X.A X.env X.xe) (ht : PT X e (xT X C W a)) (hb : PSs X sts (xSs X C W ss)) : PS X (.While e sts [] pos) (xS X C W (.whileS a ss)) := by
  refine (ps_while hp ht hb).imp fun E σ H ⟨Φ, Z, β, ρ, U, r, S, R, h, o⟩ => ?_
  rw [exec] at h
  refine ⟨fun m σ H => ∃ Φ Z β ρ U r, RepS X.prog X.w X.K Z β ρ σ ∧ Rel X.prog X.w X.K X.mg Φ Z β U H ∧ whileGo (evB C a) (execs C ss) m ρ U = some r ∧ OutS X.prog X.w X.K X.mg W Φ Z β E r, ⟨WN, Φ, Z, β, ρ, U, r, S, R, h, o⟩, ?_⟩
  intro m σ H ⟨Φ, Z, β, ρ, U, r, S, R, h, o⟩
  cases m with
  | zero => cases h
  | succ m =>
    rw [whileGo] at h
    refine tT_bndS S R h o fun Z1 β1 H1 k U1 z1 b1 R1 S1 h1 o1 => ?_
    cases k with
    | false =>
      simp only [Bool.false_eq_true, if_false] at h1 ⊢
      cases h1
      exact o1 Z1 β1 H1 σ (ZLe.refl _) (BLe.refl _) R1 S1
    | true =>
      simp only [if_true] at h1 ⊢
      refine ⟨fun σ' H' => ∃ Φ Z β ρ U r, RepS X.prog X.w X.K Z β ρ σ' ∧ Rel X.prog X.w X.K X.mg Φ Z β U H' ∧ whileGo (evB C a) (execs C ss) m ρ U = some r ∧ OutS X.prog X.w X.K X.mg W Φ Z β E r, fun σ' H' q => ⟨m, Nat.lt_succ_self m, q⟩, ?_⟩
      cases q : execs C ss ρ U1 with
      | none => rw [q] at h1; cases h1
      | some r1 =>
        rw [q] at h1
        refine ⟨Φ, Z1, β1, ρ, U1, r1, S1, R1, q, ?_⟩
        cases r1 with
        | nx ρ2 U2 => exact fun Z2 β2 H2 σ2 z2 b2 R2 S2 => ⟨Φ, Z2, β2, ρ2, U2, r, S2, R2, h1, o1.mono z2 b2⟩
        | rt d U2 => cases h1; exact o1
        | bk ρ2 U2 => cases h1; exact o1
        | ex x ρ2 U2 => cases h1; exact o1
end
end VI

/-! VIc5: targets, assignments. -/
namespace VI
open PySem PySem.Spec PyProof.Rows L2
theorem wipe_set {i : Nat} {x : Option V} (σ : L2.St) : ∀ {vs : List Nat}, i ∈ vs → L2.wipe (σ.set i x) vs = L2.wipe σ vs
  | v :: vs, h => by
    unfold L2.wipe
    by_cases hi : i ∈ vs
    · rw [wipe_set σ hi]
    · have hv : v = i := by
        rcases List.mem_cons.mp h with h | h
        · exact h.symm
        · exact absurd h hi
      subst hv
      refine List.ext_getElem? fun j => ?_
      by_cases hj : v = j
      · subst hj
        by_cases hl : v < σ.length
        · rw [List.getElem?_set_self (by rw [L2.wipe_length, List.length_set]; exact hl), List.getElem?_set_self (by rw [L2.wipe_length]; exact hl)]
        · rw [List.getElem?_eq_none (by rw [List.length_set, L2.wipe_length, List.length_set]; omega), List.getElem?_eq_none (by rw [List.length_set, L2.wipe_length]; omega)]
      · rw [List.getElem?_set_ne hj, List.getElem?_set_ne hj]
        by_cases hm : j ∈ vs
        · have e : ∀ (τ : L2.St), (L2.wipe τ vs)[j]? = if j < τ.length then some none else none := by
            intro τ
            by_cases hl : j < τ.length
            · rw [if_pos hl]
              cases q : (L2.wipe τ vs)[j]? with
              | none =>
                rw [List.getElem?_eq_none_iff, L2.wipe_length] at q
                omega
              | some o =>
                cases o with
                | none => rfl
                | some y => exact absurd hm (L2.wipe_some q).2
            · rw [if_neg hl, List.getElem?_eq_none (by rw [L2.wipe_length]; omega)]
          rw [e, e, List.length_set]
        · rw [L2.wipe_out hm, L2.wipe_out hm, List.getElem?_set_ne hj]
/-- the slots of a target -/
def Tg.slots : Tg → List Nat
  | .var i => [i]
  | .tup is => is
  | .tup2 a bs => a :: bs
section
variable {X : Cx} {C : Cal} {W : WX} {e e1 e2 e3 : Expr} {a b c : IE} {pos p : Pos} {st : Stmt} {sts sts2 : List Stmt} {s : IS} {ss ss2 : ISs}
/-- what is wanted of an assignment to a target -/
def xG (P : Program) (w : World) (K : PySem.W.Frag) (mg : Str → Option Value) (tg : Tg) : TG := fun v σ H Q => ∃ Φ Z β U d ρ ρ', RepS P w K Z β ρ σ ∧ Rel P w K mg Φ Z β U H ∧ RepV P w K Z β d v ∧ asgT U tg d ρ = some ρ' ∧
  ∀ σ', RepS P w K Z β ρ' σ' → (∀ vs : List Nat, (∀ i ∈ tg.slots, i ∈ vs) → L2.wipe σ' vs = L2.wipe σ vs) → Q σ' H
/-- .. to names -/
def xGs (P : Program) (w : World) (K : PySem.W.Frag) (mg : Str → Option Value) (is : List Nat) : TGs := fun vs σ H Q => ∃ Φ Z β U ds ρ ρ', RepS P w K Z β ρ σ ∧ Rel P w K mg Φ Z β U H ∧ RepL P w K Z β ds vs ∧ setAll ρ is ds = some ρ' ∧
  ∀ σ', RepS P w K Z β ρ' σ' → (∀ vs : List Nat, (∀ i ∈ is, i ∈ vs) → L2.wipe σ' vs = L2.wipe σ vs) → Q σ' H
/-- a name that may be set -/
structure Sets (X : Cx) (i : Nat) (x : Str) : Prop where
  nd : X.N.Nodup
  at_ : X.N[i]? = some x
  loc : Loc X.env.scope x
  fn : X.fn x = true ∨ X.env.scope.names.lookup x = some .local
theorem g_var {i : Nat} {x : Str} (h : Sets X i x) : PG X (.Name x pos) (xG X.prog X.w X.K X.mg (.var i)) := by
  refine ⟨fun pins s σ H v u Q I r ⟨Φ, Z, β, U, d, ρ, ρ', S, R, rd, e, k⟩ => (pg_name h.nd h.at_ h.loc h.fn).run pins s σ H v u Q I r ?_⟩
  cases e
  exact k _ (S.set rd) fun vs hv => wipe_set σ (hv i (by simp [Tg.slots]))
theorem gs_nil : PGs X [] (xGs X.prog X.w X.K X.mg []) := by
  refine ⟨fun pins s σ H vs us Q I r ⟨Φ, Z, β, U, ds, ρ, ρ', S, R, rd, e, k⟩ => pgs_nil.run pins s σ H vs us Q I r ?_⟩
  cases ds with
  | nil =>
    cases e
    simp only [RepL] at rd
    exact ⟨rd, k σ S fun _ _ => rfl⟩
  | cons _ _ => cases e
theorem gs_cons {i : Nat} {x : Str} {is : List Nat} {es : List Expr} (h : Sets X i x) (h2 : PGs X es (xGs X.prog X.w X.K X.mg is)) : PGs X (.Name x pos :: es) (xGs X.prog X.w X.K X.mg (i :: is)) := by
  refine ⟨fun pins s σ H vs us Q I r ⟨Φ, Z, β, U, ds, ρ, ρ', S, R, rd, e, k⟩ => (pgs_cons (pg_name h.nd h.at_ h.loc h.fn) h2).run pins s σ H vs us Q I r ?_⟩
  cases ds with
  | nil => cases e
  | cons d ds =>
    simp only [RepL] at rd
    obtain ⟨v, s, rfl, r1, r2⟩ := rd
    refine ⟨v, s, rfl, Φ, Z, β, U, ds, _, ρ', S.set r1, R, r2, e, fun σ' S' hw => k σ' S' fun vs hv => ?_⟩
    rw [hw vs fun j hj => hv j (by simp [hj])]
    exact wipe_set σ (hv i (by simp))
/-- names alone -/
def names (es : List Expr) : Bool := es.all fun e => match e with | .Name _ _ => true | _ => false
theorem names_each : ∀ {es : List Expr} {env : Env}, names es = true → (assignEach es env).length = es.length ∧ (assignEach es env).findIdx? (·.1) = none
  | [], _, _ => ⟨rfl, rfl⟩
  | e :: r, env, h => by
    simp only [names, List.all_cons, Bool.and_eq_true] at h
    have ih := names_each (env := env) (es := r) h.2
    cases e <;> first
      | (cases h.1; done)
      | (refine ⟨?_, ?_⟩
         · show (assignEach r env).length + 1 = _
           rw [ih.1]
           rfl
         · show List.findIdx? (·.1) ((false, _) :: assignEach r env) = none
           rw [List.findIdx?_cons]
           simp [ih.2])
/-- unpacking a tuple or a list -/
theorem pg_seq {es : List Expr} {k : Nat} {t : TGs} {n : Nat} (hc : X.calm = true) (h : PGs X es t) (hn : (assignEach es X.env).length = n) (hst : (assignEach es X.env).findIdx? (·.1) = none) :
    PG X (.Tuple es k pos) (fun v σ H Q => ∃ a xs, v = .ref a ∧ (SqL X.K H a xs ∨ SqT X.K H a xs) ∧ xs.length = n ∧ t xs σ H Q) := by
  refine ⟨fun pins s σ H v u Q I r ⟨a, xs, e, hq, hl, q⟩ => ?_⟩
  rcases hq with hq | hq
  · exact (pg_lst hc h hn hst).run pins s σ H v u Q I r ⟨a, xs, e, hq, hl, q⟩
  · exact (pg_tup hc h hn hst).run pins s σ H v u Q I r ⟨a, xs, e, hq, hl, q⟩
theorem setAll_len : ∀ {is : List Nat} {ds : List D} {ρ ρ' : Rho}, setAll ρ is ds = some ρ' → ds.length = is.length
  | [], [], _, _, _ => rfl
  | i :: is, d :: ds, ρ, ρ', h => by
    have := setAll_len (show setAll (ρ.set i (some d)) is ds = some ρ' from h)
    simp [this]
  | [], _ :: _, _, _, h => by cases h
  | _ :: _, [], _, _, h => by cases h
theorem g_tup {es : List Expr} {k : Nat} {is : List Nat} (hc : X.calm = true) (hn : names es = true) (hl : es.length = is.length) (h : PGs X es (xGs X.prog X.w X.K X.mg is)) : PG X (.Tuple es k pos) (xG X.prog X.w X.K X.mg (.tup is)) := by
  refine ⟨fun pins s σ H v u Q I r ⟨Φ, Z, β, U, d, ρ, ρ', S, R, rd, e, k⟩ => (pg_seq hc h (names_each hn).1 (names_each hn).2).run pins s σ H v u Q I r ?_⟩
  simp only [asgT] at e
  split at e
  · rename_i ds hq
    obtain ⟨p, vs, rfl, sq, q⟩ := R.seq hq rd
    exact ⟨p, vs, rfl, sq, by rw [← q.length, setAll_len e, hl], Φ, Z, β, U, ds, ρ, ρ', S, R, q, e, k⟩
  · cases e
/-- a, (b, ..) = -/
theorem g_tup2 {es : List Expr} {k k2 : Nat} {i : Nat} {x : Str} {is : List Nat} {p1 p2 : Pos} (hc : X.calm = true) (hx : Sets X i x) (hn : names es = true) (hl : es.length = is.length) (h : PGs X es (xGs X.prog X.w X.K X.mg is)) :
    PG X (.Tuple [.Name x p1, .Tuple es k2 p2] k pos) (xG X.prog X.w X.K X.mg (.tup2 i is)) := by
  have ht : PG X (.Tuple es k2 p2) _ := pg_seq hc h (names_each hn).1 (names_each hn).2
  refine ⟨fun pins s σ H v u Q I r ⟨Φ, Z, β, U, d, ρ, ρ', S, R, rd, e, k⟩ => (pg_tup hc (pgs_cons (pg_name hx.nd hx.at_ hx.loc hx.fn) (pgs_cons ht pgs_nil)) (n := 2)).run pins s σ H v u Q I r ?_⟩
  simp only [asgT] at e
  split at e
  · rename_i d1 d2
    split at e
    · rename_i ds hq
      obtain ⟨a, vs, rfl, sq, q⟩ := R.tuple rd
      simp only [RepL] at q
      obtain ⟨v1, s1, rfl, r1, v2, s2, rfl, r2, rfl⟩ := q
      obtain ⟨p, ws, rfl, sq2, q2⟩ := R.seq hq r2
      refine ⟨a, _, rfl, sq, rfl, v1, _, rfl, _, _, rfl, p, ws, rfl, sq2, by rw [← q2.length, setAll_len e, hl], Φ, Z, β, U, ds, _, ρ', S.set r1, R, q2, e, fun σ' S' hw => ⟨rfl, k σ' S' fun vs hv => ?_⟩⟩
      rw [hw vs fun j hj => hv j (by simp [Tg.slots, hj])]
      exact wipe_set σ (hv i (by simp [Tg.slots]))
    · cases e
  · cases e
/-! ### assignments -/
theorem s_set {i : Nat} {x : Str} (h : Sets X i x) (hn : noComp e = true) (ha : PE X e (xE X C W a)) : PS X (.Assign [.Name x p] e pos) (xS X C W (.asg (.var i) a)) := by
  refine (ps_set h.nd h.at_ h.loc ha (swaps_no hn _ _ _) h.fn).imp fun E σ H ⟨Φ, Z, β, ρ, U, r, S, R, h, o⟩ => ?_
  rw [exec] at h
  refine tE_bndS S R h o fun Z1 β1 H1 d v U1 z1 b1 R1 r1 S1 h1 o1 => ?_
  simp only [asgT] at h1
  cases h1
  exact o1 Z1 β1 H1 _ (ZLe.refl _) (BLe.refl _) R1 (S1.set r1)
def noTup : Expr → Bool
  | .Tuple _ _ _ => false
  | _ => true
theorem stores_no {e : Expr} (h : noTup e = true) (t : Expr) (env : Env) : swappedStores [t] e env = pure none := by
  unfold swappedStores
  cases e <;> first
    | (cases h; done)
    | (cases t <;> rfl)
theorem swaps_tup {es : List Expr} {k : Nat} {p : Pos} (e : Expr) (l : Nat) (env : Env) : swapsWithSole [.Tuple es k p] e l env = pure false := by
  show swapsWith e (some (.Tuple es k p)) l env = pure false
  cases e <;> rfl
theorem s_asgT {es : List Expr} {k : Nat} {tg : Tg} (ht : noTup e = true) (ha : PE X e (xE X C W a)) (hg : PG X (.Tuple es k p) (xG X.prog X.w X.K X.mg tg)) : PS X (.Assign [.Tuple es k p] e pos) (xS X C W (.asg tg a)) := by
  refine (ps_asg ha hg (swaps_tup _ _ _) (stores_no ht _ _) rfl).imp fun E σ H ⟨Φ, Z, β, ρ, U, r, S, R, h, o⟩ => ?_
  rw [exec] at h
  refine tE_bndS S R h o fun Z1 β1 H1 d v U1 z1 b1 R1 r1 S1 h1 o1 => ?_
  split at h1
  · rename_i ρ' e1
    cases h1
    exact ⟨Φ, Z1, β1, U1, d, ρ, ρ', S1, R1, r1, e1, fun σ' S' _ => o1 Z1 β1 H1 σ' (ZLe.refl _) (BLe.refl _) R1 S'⟩
  · cases h1
theorem s_aug {i : Nat} {x : Str} {op : BOp} (hop : op = .add ∨ op = .sub) (h : Sets X i x) (ha : PE X e (xE X C W a)) : PS X (.AugAssign (.Name x p) (bop op) e pos) (xS X C W (.aug i op a)) := by
  rcases hop with rfl | rfl
  · refine (ps_aug h.nd h.at_ h.loc ha ip_add h.fn).imp fun E σ H ⟨Φ, Z, β, ρ, U, r, S, R, h, o⟩ => ?_
    rw [exec] at h
    split at h
    · rename_i x0 hx
      obtain ⟨v0, e0, r0⟩ := S.2 i x0 hx
      refine ⟨v0, e0, tE_bndS S R h o fun Z1 β1 H1 d v U1 z1 b1 R1 r1 S1 h1 o1 => ?_⟩
      split at h1
      · rename_i n m
        cases h1
        simp only [RepV] at r0 r1
        refine ⟨n, m, r0, r1, o1 Z1 β1 H1 _ (ZLe.refl _) (BLe.refl _) R1 (S1.set (by simp only [RepV]))⟩
      · cases h1
    · cases h
  · refine (ps_aug h.nd h.at_ h.loc ha ip_sub h.fn).imp fun E σ H ⟨Φ, Z, β, ρ, U, r, S, R, h, o⟩ => ?_
    rw [exec] at h
    split at h
    · rename_i x0 hx
      obtain ⟨v0, e0, r0⟩ := S.2 i x0 hx
      refine ⟨v0, e0, tE_bndS S R h o fun Z1 β1 H1 d v U1 z1 b1 R1 r1 S1 h1 o1 => ?_⟩
      split at h1
      · rename_i n m
        cases h1
        simp only [RepV] at r0 r1
        refine ⟨n, m, r0, r1, o1 Z1 β1 H1 _ (ZLe.refl _) (BLe.refl _) R1 (S1.set (by simp only [RepV]))⟩
      · cases h1
    · cases h
end
end VI

/-! VIc6: what is walked: for, comprehensions. -/
namespace VI
open PySem PySem.Spec PyProof.Rows L2
/-- the iterator J yields what src says -/
structure WalkV (P : Program) (w : World) (K : PySem.W.Frag) (mg : Str → Option Value) (Z : Hp) (β : List Addr) (J : L2.It) (src : Src) : Prop where
  go : ∀ (i : Nat) (g : Store → Option D), src.get[i]? = some g → ∀ (Φ : List (Addr × HO)) (Z' : Hp) (β' : List Addr) (U : Store) (H : Hp) (x : D), ZLe Z Z' → BLe β β' → Rel P w K mg Φ Z' β' U H → g U = some x →
    J.go i H ∧ ∀ v H', J.yld i H v H' → ∃ Z'', ZLe Z' Z'' ∧ Rel P w K mg Φ Z'' β' U H' ∧ RepV P w K Z'' β' x v
  stop : ∀ (Φ : List (Addr × HO)) (Z' : Hp) (β' : List Addr) (U : Store) (H : Hp), ZLe Z Z' → BLe β β' → Rel P w K mg Φ Z' β' U H → src.fin U = true → J.stop src.get.length H
theorem WalkV.mono {P : Program} {w : World} {K : PySem.W.Frag} {mg : Str → Option Value} {Z Z' : Hp} {β β' : List Addr} {J : L2.It} {src : Src} (h : WalkV P w K mg Z β J src) (z : ZLe Z Z') (b : BLe β β') : WalkV P w K mg Z' β' J src :=
  ⟨fun i g e Φ Z2 β2 U H x z2 b2 => h.go i g e Φ Z2 β2 U H x (z.trans z2) (b.trans b2), fun Φ Z2 β2 U H z2 b2 => h.stop Φ Z2 β2 U H (z.trans z2) (b.trans b2)⟩
def DoneW (P : Program) (w : World) (K : PySem.W.Frag) (mg : Str → Option Value) (Φ : List (Addr × HO)) (Z : Hp) (β : List Addr) (src : Src) (U' : Store) (R : L2.It → Hp → Prop) : Prop :=
  ∀ (Z' : Hp) (β' : List Addr) (H' : Hp) (J : L2.It), ZLe Z Z' → BLe β β' → Rel P w K mg Φ Z' β' U' H' → WalkV P w K mg Z' β' J src → R J H'
theorem DoneW.mono {P : Program} {w : World} {K : PySem.W.Frag} {mg : Str → Option Value} {Φ : List (Addr × HO)} {Z Z' : Hp} {β β' : List Addr} {src : Src} {U' : Store} {R : L2.It → Hp → Prop} (h : DoneW P w K mg Φ Z β src U' R) (z : ZLe Z Z') (b : BLe β β') : DoneW P w K mg Φ Z' β' src U' R :=
  fun Z2 β2 H2 J z2 b2 => h Z2 β2 H2 J (z.trans z2) (b.trans b2)
def tI (P : Program) (w : World) (K : PySem.W.Frag) (mg : Str → Option Value) (C : Cal) (W : WX) (it : VI.It) : TI := fun σ H R => ∃ Φ Z β ρ U r, RepS P w K Z β ρ σ ∧ Rel P w K mg Φ Z β U H ∧ evIt C it ρ U = some r ∧
  Out P w K mg W Φ Z β σ (fun src U' => DoneW P w K mg Φ Z β src U' R) r
section
variable {X : Cx} {C : Cal} {W : WX} {e e1 e2 e3 : Expr} {a b c : IE} {pos p : Pos} {st : Stmt} {sts sts2 : List Stmt} {s : IS} {ss ss2 : ISs} {it : VI.It} {tg : Expr}
abbrev xI (X : Cx) (C : Cal) (W : WX) (it : VI.It) : TI := tI X.prog X.w X.K X.mg C W it
theorem s_for {iter : Expr} {t : Tg} (hp : PassesOwn (model X.prog X.w) X.A X.env X.xe) (hc : X.calm = true) (ht : tame iter = true) (hi : PI X tg iter (xI X C W it)) (hg : PG X tg (xG X.prog X.w X.K X.mg t)) (hb : PSs X sts (xSs X C W ss)) :
    PS X (.For tg iter sts [] pos) (xS X C W (.forS t it ss)) := by
  refine (ps_for hp hc hi hg hb (fold_tame ht _)).imp fun E σ H ⟨Φ, Z, β, ρ, U, r, S, R, h, o⟩ => ?_
  rw [exec] at h
  cases q : evIt C it ρ U with
  | none => rw [q] at h; cases h
  | some r1 =>
    rw [q] at h
    refine ⟨Φ, Z, β, ρ, U, r1, S, R, q, ?_⟩
    cases r1 with
    | ex x U1 =>
      cases h
      exact o Z β σ (ZLe.refl _) (BLe.refl _) S
    | ok src U1 =>
      rw [bndS_ok] at h
      intro Z1 β1 H1 J z1 b1 R1 wk
      refine ⟨fun i m σ H => ∃ Φ Z β ρ U r, WalkV X.prog X.w X.K X.mg Z β J src ∧ RepS X.prog X.w X.K Z β ρ σ ∧ Rel X.prog X.w X.K X.mg Φ Z β U H ∧ forGo src.fin (turnF t (execs C ss)) (src.get.drop i) ρ U = some r ∧ OutS X.prog X.w X.K X.mg W Φ Z β E r ∧ m = src.get.length - i ∧ i ≤ src.get.length, ⟨src.get.length, Φ, Z1, β1, ρ, U1, r, wk, S.mono z1 b1, R1, by rw [List.drop_zero]; exact h, o.mono z1 b1, by simp, Nat.zero_le _⟩, ?_⟩
      rintro i m σ H ⟨Φ, Z, β, ρ, U, r, wk, S, R, h, o, rfl, hi⟩
      by_cases hl : i < src.get.length
      · rw [List.drop_eq_getElem_cons hl, forGo] at h
        split at h
        · rename_i x hx
          obtain ⟨go, yl⟩ := wk.go i _ (List.getElem?_eq_getElem hl) Φ Z β U H x (ZLe.refl _) (BLe.refl _) R hx
          refine .inr ⟨go, fun σ' H' => ∃ Φ Z β ρ U r, WalkV X.prog X.w X.K X.mg Z β J src ∧ RepS X.prog X.w X.K Z β ρ σ' ∧ Rel X.prog X.w X.K X.mg Φ Z β U H' ∧ forGo src.fin (turnF t (execs C ss)) (src.get.drop (i + 1)) ρ U = some r ∧ OutS X.prog X.w X.K X.mg W Φ Z β E r, fun σ' H' q => ⟨src.get.length - (i + 1), by omega, ?_⟩, fun v H' y => ?_⟩
          · obtain ⟨Φ, Z, β, ρ, U, r, wk, S, R, h, o⟩ := q
            exact ⟨Φ, Z, β, ρ, U, r, wk, S, R, h, o, rfl, hl⟩
          · obtain ⟨Z2, z2, R2, r2⟩ := yl v H' y
            unfold turnF at h
            cases ha : asgT U t x ρ with
            | none =>
              rw [ha] at h
              cases h
            | some ρ2 =>
              rw [ha] at h
              refine ⟨Φ, Z2, β, U, x, ρ, ρ2, S.mono z2 (BLe.refl _), R2, r2, ha, fun σ' S' _ => ?_⟩
              cases q : execs C ss ρ2 U with
              | none => simp only [q] at h; cases h
              | some r1 =>
                simp only [q] at h
                refine ⟨Φ, Z2, β, ρ2, U, r1, S', R2, q, ?_⟩
                have o2 := o.mono z2 (BLe.refl β)
                cases r1 with
                | nx ρ3 U3 => exact fun Z3 β3 H3 σ3 z3 b3 R3 S3 => ⟨Φ, Z3, β3, ρ3, U3, r, wk.mono (z2.trans z3) b3, S3, R3, h, o2.mono z3 b3⟩
                | rt d U3 => cases h; exact o2
                | bk ρ3 U3 => cases h; exact o2
                | ex x ρ3 U3 => cases h; exact o2
        · cases h
      · have e : i = src.get.length := by omega
        subst e
        rw [List.drop_length, forGo] at h
        split at h
        · rename_i hf
          cases h
          exact .inl ⟨wk.stop Φ Z β U H (ZLe.refl _) (BLe.refl _) R hf, o Z β H σ (ZLe.refl _) (BLe.refl _) R S⟩
        · cases h
/-! ### comprehensions -/
theorem wipe_wipe (σ : L2.St) {vs : List Nat} : ∀ us : List Nat, (∀ i ∈ us, i ∈ vs) → L2.wipe (L2.wipe σ us) vs = L2.wipe σ vs
  | [], _ => rfl
  | u :: us, h => by
    show L2.wipe ((L2.wipe σ us).set u none) vs = _
    rw [wipe_set _ (h u (by simp)), wipe_wipe σ us fun i hi => h i (by simp [hi])]
def put? (o : Option D) (ds : List D) : List D := match o with
  | some d => d :: ds
  | none => ds
theorem lcGo_cons (turn : D → M (Option D)) (g : Store → Option D) (gs : List (Store → Option D)) (U : Store) : lcGo turn (g :: gs) U = (match g U with
  | some x => bnd (turn x U) fun o U1 => bnd (lcGo turn gs U1) fun ds U2 => ret (put? o ds) U2
  | none => none) := rfl
/-- a comprehension's tests: none, or one -/
theorem pts_xT {ifs : List Expr} {c : IE} (h : (ifs = [] ∧ c = .cst (.bl true)) ∨ ∃ e, ifs = [e] ∧ PT X e (xT X C W c)) : PTs X ifs (xT X C W c) := by
  rcases h with ⟨rfl, rfl⟩ | ⟨e, rfl, h⟩
  · refine ⟨fun pins s σ H Q I ⟨Φ, Z, β, ρ, U, r, S, R, h, o⟩ => pts_nil.run pins s σ H Q I ?_⟩
    rw [evB] at h
    cases h
    exact o.ok Z β H (ZLe.refl _) (BLe.refl _) R
  · exact pts_one h
theorem n_lc {elt : Expr} {ifs : List Expr} {scope : Scope} {own : List (Str × Nat)} {m : Bool} {t : Tg} {cd el : IE} (hc : X.calm = true) (hN : X.N.Nodup) (ok : BlkOk X.N X.env.scope scope own) (hs : ∀ i ∈ t.slots, i ∈ own.map (·.2))
    (hg : ∀ (s : Shared) (H : Hp) (A : Addr) (cl : List (Str × Addr)) (fp : List Addr), PG (X.blk s H scope (compEnvC scope cl A X.env) fp) tg (xG X.prog X.w X.K X.mg t))
    (hcd : ∀ (s : Shared) (H : Hp) (A : Addr) (cl : List (Str × Addr)) (fp : List Addr), PTs (X.blk s H scope (compEnvC scope cl A X.env) fp) ifs (tT X.prog X.w X.K X.mg C (fun _ _ _ _ => False) cd))
    (hel : ∀ (s : Shared) (H : Hp) (A : Addr) (cl : List (Str × Addr)) (fp : List Addr), PE (X.blk s H scope (compEnvC scope cl A X.env) fp) elt (tE X.prog X.w X.K X.mg C (fun _ _ _ _ => False) el)) :
    ∀ σ H Q, xE X C W (.lc m (own.map (·.2)) t it cd el) σ H Q → tLc (xI X C W it) (xG X.prog X.w X.K X.mg t) (tT X.prog X.w X.K X.mg C (fun _ _ _ _ => False) cd) (tE X.prog X.w X.K X.mg C (fun _ _ _ _ => False) el) (own.map (·.2)) σ H Q := by
  intro σ H Q ⟨Φ, Z, β, ρ, U, r, S, R, h, o⟩
  rw [ev] at h
  cases q : evIt C it ρ U with
  | none => rw [q] at h; cases h
  | some r1 =>
    rw [q] at h
    refine ⟨Φ, Z, β, ρ, U, r1, S, R, q, ?_⟩
    cases r1 with
    | ex x U1 =>
      cases h
      exact o
    | ok src U1 =>
      rw [bnd_ok] at h
      split at h
      · cases h
      rename_i hsz
      intro Z1 β1 H1 J z1 b1 R1 wk Dd hD
      generalize hturn : turnL t (evB C cd) (ev C el) (VI.wipe ρ (own.map (·.2))) = turn at h
      have o1 := o.monoE z1 b1
      have S1 := S.mono z1 b1
      refine ⟨fun i m' H => ∃ Z β U vs ds rest U', ZLe Z1 Z ∧ BLe β1 β ∧ Rel X.prog X.w X.K X.mg ((Dd, .lst vs) :: Φ) Z β U H ∧ RepL X.prog X.w X.K Z β ds vs ∧ lcGo turn (src.get.drop i) U = some (.ok rest U') ∧
        (if src.fin U' then mkL m (ds ++ rest) U' else none) = some r ∧ m' = src.get.length - i ∧ i ≤ src.get.length ∧ ds.length ≤ i, ?_, ?_⟩
      · cases ql : lcGo turn src.get U1 with
        | none => rw [ql] at h; cases h
        | some r2 =>
          rw [ql] at h
          cases r2 with
          | ex x U2 =>
            -- a turn raises nothing
            have nox : ∀ (gs : List (Store → Option D)) (V : Store) (x : Ex) (V' : Store), lcGo turn gs V = some (.ex x V') → False := by
              intro gs
              induction gs with
              | nil => intro V x V' q; cases q
              | cons g gs ih =>
                intro V x V' q
                rw [lcGo_cons] at q
                split at q
                · rename_i y hy
                  have hn : ∀ x' V'', turn y V ≠ some (.ex x' V'') := by
                    intro x' V'' z
                    rw [← hturn] at z
                    simp only [turnL, noEx] at z
                    split at z <;> cases z
                  cases q2 : turn y V with
                  | none => rw [q2] at q; cases q
                  | some r3 =>
                    rw [q2] at q
                    cases r3 with
                    | ex x' V'' => exact hn _ _ q2
                    | ok oo V1 =>
                      rw [bnd_ok] at q
                      cases q3 : lcGo turn gs V1 with
                      | none => rw [q3] at q; cases q
                      | some r4 =>
                        rw [q3] at q
                        cases r4 with
                        | ex x' V'' => exact ih V1 x' V'' q3
                        | ok ds V2 => cases q
                · cases q
            exact (nox _ _ _ _ ql).elim
          | ok rest U2 =>
            rw [bnd_ok] at h
            exact ⟨src.get.length, Z1, β1, U1, [], [], rest, U2, ZLe.refl _, BLe.refl _, R1.aside hD _, RepL.nil, by rw [List.drop_zero]; exact ql, h, by simp, Nat.zero_le _, by simp⟩
      · rintro i m' H2 ⟨Z2, β2, U2, vs, ds, rest, U', z2, b2, R2, q2, hgo, hfin, rfl, hi, hds⟩
        have hΦ : ∀ q ∈ Φ, q.1 ≠ Dd := fun q hq e => by
          have := (R1.ext q hq).1
          rw [e, hD] at this
          cases this
        by_cases hl : i < src.get.length
        · rw [List.drop_eq_getElem_cons hl, lcGo_cons] at hgo
          split at hgo
          · rename_i x hx
            obtain ⟨go, yl⟩ := wk.go i _ (List.getElem?_eq_getElem hl) _ Z2 β2 U2 H2 x z2 b2 R2 hx
            refine .inr ⟨go, fun H' => ∃ Z β U vs ds rest U', ZLe Z1 Z ∧ BLe β1 β ∧ Rel X.prog X.w X.K X.mg ((Dd, .lst vs) :: Φ) Z β U H' ∧ RepL X.prog X.w X.K Z β ds vs ∧ lcGo turn (src.get.drop (i + 1)) U = some (.ok rest U') ∧
              (if src.fin U' then mkL m (ds ++ rest) U' else none) = some r ∧ ds.length ≤ i + 1, fun H' q => ⟨src.get.length - (i + 1), by omega, ?_⟩, fun v H' y => ?_⟩
            · obtain ⟨Z, β, U, vs, ds, rest, U', c1, c2, c3, c4, c5, c6, c7⟩ := q
              exact ⟨Z, β, U, vs, ds, rest, U', c1, c2, c3, c4, c5, c6, rfl, hl, c7⟩
            · obtain ⟨Z3, z3, R3, r3⟩ := yl v H' y
              have ht : turn x U2 = noEx (match asgT U2 t x (VI.wipe ρ (own.map (·.2))) with
                | some ρ2 => bnd (evB C cd ρ2 U2) fun k V1 => if k then bnd (ev C el ρ2 V1) fun d V2 => ret (some d) V2 else ret none V1
                | none => none) := by rw [← hturn]; rfl
              rw [ht] at hgo
              cases ha : asgT U2 t x (VI.wipe ρ (own.map (·.2))) with
              | none => rw [ha] at hgo; cases hgo
              | some ρ2 =>
                rw [ha] at hgo
                simp only at hgo
                refine ⟨_, Z3, β2, U2, x, _, ρ2, ((S1.mono z2 b2).mono z3 (BLe.refl _)).wipe _, R3, r3, ha, fun σ' S' hw => ⟨(hw _ hs).trans (wipe_wipe σ _ fun i hi => hi), ?_⟩⟩
                cases qb : evB C cd ρ2 U2 with
                | none => rw [qb] at hgo; cases hgo
                | some rb =>
                  rw [qb] at hgo
                  cases rb with
                  | ex x' V' => cases hgo
                  | ok k V1 =>
                    refine ⟨_, Z3, β2, ρ2, U2, _, S', R3, qb, fun Z4 β4 H4 z4 b4 R4 => ?_⟩
                    rw [bnd_ok] at hgo
                    cases k with
                    | false =>
                      simp only [Bool.false_eq_true, if_false, ret_eq, noEx_ok, bnd_ok] at hgo ⊢
                      refine ⟨Z4, β4, V1, vs, ds, rest, U', (z2.trans z3).trans z4, b2.trans b4, R4, q2.mono (z3.trans z4) b4, ?_, hfin, by omega⟩
                      cases ql : lcGo turn (src.get.drop (i + 1)) V1 with
                      | none => rw [ql] at hgo; cases hgo
                      | some r4 =>
                        rw [ql] at hgo
                        cases r4 with
                        | ex x' V' => cases hgo
                        | ok dd V2 => cases hgo; rfl
                    | true =>
                      simp only [if_true] at hgo ⊢
                      cases qe : ev C el ρ2 V1 with
                      | none => rw [qe] at hgo; cases hgo
                      | some re =>
                        rw [qe] at hgo
                        cases re with
                        | ex x' V' => cases hgo
                        | ok d V2 =>
                          refine ⟨_, Z4, β4, ρ2, V1, _, S'.mono z4 b4, R4, qe, fun Z5 β5 H5 v5 z5 b5 R5 r5 => ?_⟩
                          simp only [bnd_ok, ret_eq, noEx_ok] at hgo
                          have z25 : ZLe Z2 Z5 := (z3.trans z4).trans z5
                          have q5 := q2.mono z25 (b4.trans b5)
                          have hacc := (R5.ext (Dd, .lst vs) (by simp)).1
                          refine ⟨vs, hacc, ?_, Z5, β5, V2, vs ++ [v5], ds ++ [d], ?_⟩
                          · rw [← q2.length, ← SZ_eq]
                            omega
                          · cases ql : lcGo turn (src.get.drop (i + 1)) V2 with
                            | none => rw [ql] at hgo; cases hgo
                            | some r4 =>
                              rw [ql] at hgo
                              cases r4 with
                              | ex x' V' => cases hgo
                              | ok dd V3 =>
                                simp only [bnd_ok, ret_eq, put?] at hgo
                                obtain ⟨rfl, rfl⟩ := ok_inj hgo
                                refine ⟨dd, V3, z2.trans z25, (b2.trans b4).trans b5, R5.aside2 hΦ _, q5.append (RepL.cons r5 RepL.nil), rfl, ?_, by simp; omega⟩
                                rw [List.append_assoc]
                                exact hfin
          · cases hgo
        · have e : i = src.get.length := by omega
          subst e
          rw [List.drop_length] at hgo
          obtain ⟨rfl, rfl⟩ := ok_inj (show some (VI.R.ok [] U2) = some (VI.R.ok rest U') from hgo)
          split at hfin
          · rename_i hf
            refine .inl ⟨wk.stop _ Z2 β2 U2 H2 z2 b2 R2 hf, ?_⟩
            rw [List.append_nil] at hfin
            have o2 := o1.monoE z2 b2
            obtain ⟨h1, hz, hb⟩ := R2.ext (Dd, .lst vs) (by simp)
            unfold mkL at hfin
            split at hfin
            · cases hfin
              obtain ⟨R3, b3⟩ := R2.adopt hΦ (o := .lst ds) ⟨vs, h1, q2.mono (ZLe.refl _) ⟨[Dd], rfl⟩⟩
              refine o2.ok Z2 _ H2 (.ref Dd) (ZLe.refl _) b3 R3 ?_
              simp only [RepV]
              exact ⟨Dd, rfl, by rw [← R2.len]; simp⟩
            · cases hfin
              obtain ⟨R3, z3⟩ := R2.settle hΦ
              refine o2.ok _ β2 H2 (.ref Dd) z3 (BLe.refl _) R3 ?_
              simp only [RepV]
              exact ⟨Dd, vs, rfl, .inl (.inl L2.upd_same), q2.mono z3 (BLe.refl _)⟩
          · cases hfin
end
end VI

/-! VIc7: the kinds of walks. -/
namespace VI
open PySem PySem.Spec PyProof.Rows L2
section
variable {P : Program} {w : World} {K : PySem.W.Frag} {mg : Str → Option Value} {Φ : List (Addr × HO)} {Z Z' : Hp} {β β' : List Addr} {U : Store} {H : Hp}
/-- a list or a tuple as it stands: its items -/
theorem lst_at (r : RepV P w K Z β (.lst xs) (.ref a)) : ∃ vs, SqL K Z a vs ∧ RepL P w K Z β xs vs := by
  simp only [RepV] at r
  obtain ⟨a', vs, e, s, q⟩ := r
  cases e
  exact ⟨vs, s, q⟩
theorem tup_at (r : RepV P w K Z β (.tup xs) (.ref a)) : ∃ vs, SqT K Z a vs ∧ RepL P w K Z β xs vs := by
  simp only [RepV] at r
  obtain ⟨a', vs, e, s, q⟩ := r
  cases e
  exact ⟨vs, s, q⟩
theorem fix_get {xs : List D} {i : Nat} {g : Store → Option D} (e : (fixS xs).get[i]? = some g) : ∃ d, xs[i]? = some d ∧ ∀ U, g U = some d := by
  simp only [fixS, List.getElem?_map, Option.map_eq_some_iff] at e
  obtain ⟨d, h, rfl⟩ := e
  exact ⟨d, h, fun _ => rfl⟩
theorem live_get {n k i : Nat} {g : Store → Option D} (e : (liveS n k).get[i]? = some g) {x : D} (h : g U = some x) : ∃ ys, U[n]? = some (.lst ys) ∧ ys.length = k ∧ ys[i]? = some x := by
  simp only [liveS, List.getElem?_map, Option.map_eq_some_iff] at e
  obtain ⟨j, h1, rfl⟩ := e
  have hj : i = j := by
    by_cases hl : i < k
    · rw [List.getElem?_range hl] at h1
      exact Option.some.inj h1
    · rw [List.getElem?_eq_none (by simpa using hl)] at h1
      cases h1
  subst hj
  dsimp only at h
  split at h
  · rename_i ys hy
    split at h
    · exact ⟨ys, hy, by assumption, h⟩
    · cases h
  · cases h
theorem live_fin {n k : Nat} (h : (liveS n k).fin U = true) : ∃ ys, U[n]? = some (.lst ys) ∧ ys.length = k := by
  simp only [liveS] at h
  split at h
  · rename_i ys hy
    exact ⟨ys, hy, by simpa using h⟩
  · cases h
/-- what a list's source says, of the list at a -/
structure LstSrc (P : Program) (w : World) (K : PySem.W.Frag) (mg : Str → Option Value) (Z : Hp) (β : List Addr) (a : Addr) (src : Src) : Prop where
  get : ∀ (i : Nat) (g : Store → Option D), src.get[i]? = some g → ∀ (Φ : List (Addr × HO)) (Z' : Hp) (β' : List Addr) (U : Store) (H : Hp) (x : D), ZLe Z Z' → BLe β β' → Rel P w K mg Φ Z' β' U H → g U = some x →
    ∃ vs v, SqL K H a vs ∧ vs[i]? = some v ∧ RepV P w K Z' β' x v
  fin : ∀ (Φ : List (Addr × HO)) (Z' : Hp) (β' : List Addr) (U : Store) (H : Hp), ZLe Z Z' → BLe β β' → Rel P w K mg Φ Z' β' U H → src.fin U = true → ∃ vs, SqL K H a vs ∧ vs.length = src.get.length
theorem lstSrc {d : D} {v : V} {src : Src} (R : Rel P w K mg Φ Z β U H) (h : srcL U d = some src) (r : RepV P w K Z β d v) : ∃ a vs, v = .ref a ∧ SqL K H a vs ∧ LstSrc P w K mg Z β a src := by
  unfold srcL at h
  split at h
  · rename_i xs
    cases h
    obtain ⟨a, vs, rfl, s, q⟩ := R.list (d := .lst xs) rfl r
    obtain ⟨vs, s, q⟩ := lst_at r
    refine ⟨a, vs, rfl, SqL.le R.zle s, fun i g e Φ Z' β' U H x z b R' hg => ?_, fun Φ Z' β' U H z b R' _ => ⟨vs, SqL.le R'.zle (SqL.le z s), by simp [fixS, q.length]⟩⟩
    obtain ⟨d, e1, e2⟩ := fix_get e
    rw [e2] at hg
    cases hg
    obtain ⟨v, e3, r3⟩ := q.get e1
    exact ⟨vs, v, SqL.le R'.zle (SqL.le z s), e3, RepV.mono z b r3⟩
  · rename_i n
    split at h
    · rename_i xs hu
      cases h
      obtain ⟨a, vs, rfl, s, q⟩ := R.list (d := .ref n) (xs := xs) (by simp [asL, hu]) r
      simp only [RepV] at r
      obtain ⟨a', e, eb⟩ := r
      cases e
      have at_ : ∀ {Φ : List (Addr × HO)} {Z' : Hp} {β' : List Addr} {U : Store} {H : Hp} {ys : List D}, BLe β β' → Rel P w K mg Φ Z' β' U H → U[n]? = some (.lst ys) → ∃ vs, SqL K H a vs ∧ RepL P w K Z' β' ys vs := fun b R' hy => by
        obtain ⟨vs, e, q⟩ := R'.ref hy (b.get eb)
        exact ⟨vs, .inl (.inl e), q⟩
      refine ⟨a, vs, rfl, s, fun i g e Φ Z' β' U H x z b R' hg => ?_, fun Φ Z' β' U H z b R' hf => ?_⟩
      · obtain ⟨ys, hy, _, hx⟩ := live_get e hg
        obtain ⟨vs, s, q⟩ := at_ b R' hy
        obtain ⟨v, e3, r3⟩ := q.get hx
        exact ⟨vs, v, s, e3, r3⟩
      · obtain ⟨ys, hy, hk⟩ := live_fin hf
        obtain ⟨vs, s, q⟩ := at_ b R' hy
        exact ⟨vs, s, by simp [liveS, ← q.length, hk]⟩
    · cases h
  · cases h
theorem walk_lst {a : Addr} {src : Src} (h : LstSrc P w K mg Z β a src) : WalkV P w K mg Z β (Itl K a) src := by
  refine ⟨fun i g e Φ Z' β' U H x z b R hg => ?_, fun Φ Z' β' U H z b R hf => ?_⟩
  · obtain ⟨vs, v, s, e1, r⟩ := h.get i g e Φ Z' β' U H x z b R hg
    refine ⟨⟨vs, v, s, e1⟩, fun v' H' ⟨y1, y2⟩ => ?_⟩
    subst y1
    have := y2 vs s
    rw [e1] at this
    cases this
    exact ⟨Z', ZLe.refl _, R, r⟩
  · obtain ⟨vs, s, e1⟩ := h.fin Φ Z' β' U H z b R hf
    exact ⟨vs, s, by rw [e1]; exact Nat.le_refl _⟩
theorem walk_tup {xs : List D} {a : Addr} (r : RepV P w K Z β (.tup xs) (.ref a)) : WalkV P w K mg Z β (Itt K a) (fixS xs) := by
  obtain ⟨vs, s, q⟩ := tup_at r
  refine ⟨fun i g e Φ Z' β' U H x z b R hg => ?_, fun Φ Z' β' U H z b R hf => ?_⟩
  · obtain ⟨d, e1, e2⟩ := fix_get e
    rw [e2] at hg
    cases hg
    obtain ⟨v, e3, r3⟩ := q.get e1
    have s' := SqT.le R.zle (SqT.le z s)
    refine ⟨⟨vs, v, s', e3⟩, fun v' H' ⟨y1, y2⟩ => ?_⟩
    subst y1
    have := y2 vs s'
    rw [e3] at this
    cases this
    exact ⟨Z', ZLe.refl _, R, RepV.mono z b r3⟩
  · exact ⟨vs, SqT.le R.zle (SqT.le z s), by simp [fixS, q.length]⟩
theorem walk_str {x : Tx} : WalkV P w K mg Z β (Its ⟨x.toArray⟩) (fixS (x.map fun c => .str [c])) := by
  refine ⟨fun i g e Φ Z' β' U H y z b R hg => ?_, fun Φ Z' β' U H z b R hf => ?_⟩
  · obtain ⟨d, e1, e2⟩ := fix_get e
    rw [e2] at hg
    cases hg
    simp only [List.getElem?_map, Option.map_eq_some_iff] at e1
    obtain ⟨c, e1, rfl⟩ := e1
    have hi : i < x.length := (List.getElem?_eq_some_iff.mp e1).1
    refine ⟨by simpa [Its] using hi, fun v' H' ⟨y1, c', y2, y3⟩ => ?_⟩
    subst y1
    have : x[i]? = some c' := by simpa using y2
    rw [e1] at this
    cases this
    exact ⟨Z', ZLe.refl _, R, by simp only [RepV]; exact y3⟩
  · simp [Its, fixS]
theorem walk_range {lo hi : Int} : WalkV P w K mg Z β (Itr lo (hi - lo).toNat) (fixS (rangeL lo hi)) := by
  refine ⟨fun i g e Φ Z' β' U H y z b R hg => ?_, fun Φ Z' β' U H z b R hf => ?_⟩
  · obtain ⟨d, e1, e2⟩ := fix_get e
    rw [e2] at hg
    cases hg
    simp only [rangeL, List.getElem?_map, Option.map_eq_some_iff] at e1
    obtain ⟨k, e1, rfl⟩ := e1
    have hi : i < (hi - lo).toNat := by simpa using (List.getElem?_eq_some_iff.mp e1).1
    rw [List.getElem?_range hi] at e1
    cases e1
    refine ⟨hi, fun v' H' ⟨y1, y2⟩ => ?_⟩
    subst y1
    exact ⟨Z', ZLe.refl _, R, by simp only [RepV]; exact y2⟩
  · show (hi - lo).toNat ≤ _
    simp [fixS, rangeL]
end
section
variable {X : Cx} {C : Cal} {W : WX} {e e1 e2 e3 : Expr} {a b c : IE} {pos p tpos : Pos} {tg : Expr} {elts : List Expr} {kk : Nat}
/-- what is wanted of a walk -/
theorem tE_bndI {e : IE} {f : D → M Src} {r : VI.R Src} {Φ : List (Addr × HO)} {Z : Hp} {β : List Addr} {ρ : Rho} {σ : L2.St} {U : Store} {H : Hp} {R' : L2.It → Hp → Prop} {Q : VK} (S : RepS X.prog X.w X.K Z β ρ σ) (R : Rel X.prog X.w X.K X.mg Φ Z β U H) (h : bnd (ev C e ρ U) f = some r)
    (o : Out X.prog X.w X.K X.mg W Φ Z β σ (fun src U' => DoneW X.prog X.w X.K X.mg Φ Z β src U' R') r)
    (k : ∀ Z' β' H' d v U', ZLe Z Z' → BLe β β' → Rel X.prog X.w X.K X.mg Φ Z' β' U' H' → RepV X.prog X.w X.K Z' β' d v → RepS X.prog X.w X.K Z' β' ρ σ → f d U' = some r → Out X.prog X.w X.K X.mg W Φ Z' β' σ (fun src U' => DoneW X.prog X.w X.K X.mg Φ Z' β' src U' R') r → Q v H') : xE X C W e σ H Q :=
  tE_bnd S R h o.wish fun Z' β' H' d v U' z b R1 r1 S1 h1 => k Z' β' H' d v U' z b R1 r1 S1 h1 (o.mono z b fun src U' q => DoneW.mono q z b)
theorem i_seq (ha : PE X e (xE X C W a)) : PI X tg e (xI X C W (.seq a)) := by
  refine ⟨fun pins s σ H R' I ⟨Φ, Z, β, ρ, U, r, S, R, h, o⟩ => ?_⟩
  rw [evIt] at h
  refine L2.thn (ha.run pins s σ H (fun x H1 => (∃ a, x = .ref a ∧ (∃ xs, SqL X.K H1 a xs) ∧ R' (Itl X.K a) H1) ∨ (∃ a, x = .ref a ∧ (∃ xs, SqT X.K H1 a xs) ∧ R' (Itt X.K a) H1) ∨ ∃ y, x = .str y ∧ R' (Its y) H1) I ?_) fun v s1 ⟨x, H1, I1, r1, q1⟩ => ?_
  · refine tE_bndI S R h o fun Z1 β1 H1 d v U1 z1 b1 R1 r1 S1 h1 o1 => ?_
    split at h1
    · rename_i src hs
      cases h1
      unfold srcOf at hs
      split at hs
      · rename_i xs
        obtain ⟨a, vs, rfl, s, ls⟩ := lstSrc R1 (d := .lst xs) (src := src) hs r1
        exact .inl ⟨a, rfl, ⟨vs, s⟩, o1.ok Z1 β1 H1 _ (ZLe.refl _) (BLe.refl _) R1 (walk_lst ls)⟩
      · rename_i xs
        cases hs
        obtain ⟨a, vs, rfl, s, q⟩ := R1.tuple r1
        exact .inr (.inl ⟨a, rfl, ⟨vs, s⟩, o1.ok Z1 β1 H1 _ (ZLe.refl _) (BLe.refl _) R1 (walk_tup r1)⟩)
      · rename_i x
        cases hs
        simp only [RepV] at r1
        exact .inr (.inr ⟨_, r1, o1.ok Z1 β1 H1 _ (ZLe.refl _) (BLe.refl _) R1 walk_str⟩)
      · rename_i n
        obtain ⟨a, vs, rfl, s, ls⟩ := lstSrc R1 (d := .ref n) (src := src) hs r1
        exact .inl ⟨a, rfl, ⟨vs, s⟩, o1.ok Z1 β1 H1 _ (ZLe.refl _) (BLe.refl _) R1 (walk_lst ls)⟩
      · cases hs
    · cases h1
  · rcases q1 with ⟨a, rfl, ⟨xs, hq⟩, q⟩ | ⟨a, rfl, ⟨xs, hq⟩, q⟩ | ⟨x, rfl, q⟩
    · cases r1
      obtain ⟨its, rv, p, hz⟩ := I1.list hq
      exact wpAny_pyIter_list p.isList (pi_one (tk := s1.toks) I1 _ (turn_list a _) ⟨_, Heap.get?_push_size _ rfl, rfl, rfl⟩ q)
    · cases r1
      obtain ⟨its, rv, p, hz⟩ := I1.tuple hq
      exact wpAny_pyIter_tuple (show s1.heap.IsTuple a its.toArray from p) (pi_one (tk := s1.toks) I1 _ (turn_tuple a _) ⟨_, Heap.get?_push_size _ rfl, rfl, rfl⟩ q)
    · obtain ⟨t, rfl⟩ := r1
      cases ha : x.cps.all (· < 128)
      · exact wpAny_pyIter_wide ha (pi_one (tk := s1.toks) I1 _ (turn_str _ x t "str_iterator" (.inr rfl)) ⟨_, Heap.get?_push_size _ rfl, rfl, rfl⟩ q)
      · exact wpAny_pyIter_ascii ha (pi_one (tk := s1.toks) I1 _ (turn_str _ x t "str_ascii_iterator" (.inl rfl)) ⟨_, Heap.get?_push_size _ rfl, rfl, rfl⟩ q)
/-- one argument -/
theorem a_one (ht : tame e = true) (ha : PE X e (xE X C W a)) : PA X [e] (tCons (xE X C W a) tNil) := pa_cons ha pa_nil (star_tame ht [] _)
theorem a_two (ht : tame e1 = true) (ht2 : tame e2 = true) (ha : PE X e1 (xE X C W a)) (hb : PE X e2 (xE X C W b)) : PA X [e1, e2] (tCons (xE X C W a) (tCons (xE X C W b) tNil)) := pa_cons ha (pa_cons hb pa_nil (star_tame ht2 [] _)) (star_tame ht [e2] _)
theorem small_ok {i : Int} (h : small i = true) : -(2 ^ 62) ≤ i ∧ i < 2 ^ 62 := by
  unfold small at h
  simp only [Bool.and_eq_true, decide_eq_true_eq] at h
  omega
theorem i_range1 (hg : Gl X "range") (hm : X.mg "range" = none) (ht : tame e = true) (ha : PE X e (xE X C W a)) : PI X tg (.Call (.Name "range" p) [e] [] pos) (xI X C W (.range1 a)) := by
  refine ⟨fun pins s σ H R' I ⟨Φ, Z, β, ρ, U, r, S, R, h, o⟩ => (pi_range1 hg hm (a_one ht ha) (star_tame ht [] _)).run pins s σ H R' I ?_⟩
  rw [evIt] at h
  refine tE_bndI S R h o fun Z1 β1 H1 d v U1 z1 b1 R1 r1 S1 h1 o1 => ?_
  split at h1
  · rename_i i
    split at h1
    · rename_i hi
      cases h1
      simp only [RepV] at r1
      subst r1
      refine ⟨i, rfl, (small_ok hi).1, (small_ok hi).2, o1.ok Z1 β1 H1 _ (ZLe.refl _) (BLe.refl _) R1 ?_⟩
      have := walk_range (P := X.prog) (w := X.w) (K := X.K) (mg := X.mg) (Z := Z1) (β := β1) (lo := 0) (hi := i)
      simpa using this
    · cases h1
  · cases h1
theorem i_range2 (hg : Gl X "range") (hm : X.mg "range" = none) (ht : tame e1 = true) (ht2 : tame e2 = true) (ha : PE X e1 (xE X C W a)) (hb : PE X e2 (xE X C W b)) : PI X tg (.Call (.Name "range" p) [e1, e2] [] pos) (xI X C W (.range2 a b)) := by
  refine ⟨fun pins s σ H R' I ⟨Φ, Z, β, ρ, U, r, S, R, h, o⟩ => (pi_range2 hg hm (a_two ht ht2 ha hb) (by rw [star_tame ht, star_tame ht2]; rfl) (star_tame ht2 [] _)).run pins s σ H R' I ?_⟩
  rw [evIt] at h
  refine tE_bndI S R h o fun Z1 β1 H1 d v U1 z1 b1 R1 r1 S1 h1 o1 => ?_
  refine tE_bndI S1 R1 h1 o1 fun Z2 β2 H2 d2 v2 U2 z2 b2 R2 r2 S2 h2 o2 => ?_
  split at h2
  · rename_i i j
    split at h2
    · rename_i hi
      cases h2
      simp only [Bool.and_eq_true] at hi
      simp only [RepV] at r1 r2
      subst r1 r2
      exact ⟨i, j, rfl, ⟨(small_ok hi.1).1, (small_ok hi.1).2, (small_ok hi.2).1, (small_ok hi.2).2⟩, o2.ok Z2 β2 H2 _ (ZLe.refl _) (BLe.refl _) R2 walk_range⟩
    · cases h2
  · cases h2
/-! ### enumerate -/
theorem enum_get {k : Int} : ∀ {gs : List (Store → Option D)} {n i : Nat} {g : Store → Option D}, (enumS k n gs)[i]? = some g → ∃ g0, gs[i]? = some g0 ∧ ∀ U, g U = (g0 U).map fun x => .tup [.int (k + ((n + i : Nat) : Int)), x]
  | [], n, i, g, h => by simp [enumS] at h
  | g0 :: r, n, 0, g, h => by
    simp only [enumS, List.getElem?_cons_zero, Option.some.injEq] at h
    subst h
    exact ⟨g0, rfl, fun U => by simp⟩
  | g0 :: r, n, i + 1, g, h => by
    simp only [enumS, List.getElem?_cons_succ] at h
    obtain ⟨g1, e, q⟩ := enum_get h
    refine ⟨g1, by simpa using e, fun U => ?_⟩
    rw [q]
    have : n + 1 + i = n + (i + 1) := by omega
    rw [this]
theorem enum_len {k : Int} : ∀ {gs : List (Store → Option D)} {n : Nat}, (enumS k n gs).length = gs.length
  | [], _ => rfl
  | _ :: r, n => by simp [enumS, enum_len (gs := r)]
theorem walk_enum {P : Program} {w : World} {K : PySem.W.Frag} {mg : Str → Option Value} {Z : Hp} {β : List Addr} {a : Addr} {src : Src} (h : LstSrc P w K mg Z β a src) : WalkV P w K mg Z β (Ite K a) ⟨enumS 0 0 src.get, src.fin⟩ := by
  refine ⟨fun i g e Φ Z' β' U H x z b R hg => ?_, fun Φ Z' β' U H z b R hf => ?_⟩
  · obtain ⟨g0, e0, q0⟩ := enum_get e
    rw [q0, Option.map_eq_some_iff] at hg
    obtain ⟨y, hy, rfl⟩ := hg
    obtain ⟨vs, v, s, e1, r⟩ := h.get i g0 e0 Φ Z' β' U H y z b R hy
    refine ⟨⟨vs, v, s, e1⟩, fun v' H' ⟨T, x, y1, hT, y2, y3⟩ => ?_⟩
    have := y3 vs s
    rw [e1] at this
    cases this
    subst y1 y2
    have q : RepL P w K Z' β' [D.int (0 + ((0 + i : Nat) : Int)), y] [V.int (i : Nat), v] := by
      refine RepL.cons ?_ (RepL.cons r RepL.nil)
      simp only [RepV]
      simp
    obtain ⟨Z2, z2, R2, r2⟩ := R.mkT q hT
    exact ⟨Z2, z2, R2, r2⟩
  · obtain ⟨vs, s, e1⟩ := h.fin Φ Z' β' U H z b R hf
    exact ⟨vs, s, by rw [e1]; simp [enum_len]⟩
theorem i_enum (hg : Gl X "enumerate") (hm : X.mg "enumerate" = none) (ht : tame e = true) (ha : PE X e (xE X C W a)) : PI X (.Tuple elts kk tpos) (.Call (.Name "enumerate" p) [e] [] pos) (xI X C W (.enum a 0)) := by
  refine ⟨fun pins s σ H R' I ⟨Φ, Z, β, ρ, U, r, S, R, h, o⟩ => (pi_enum hg hm (a_one ht ha) (star_tame ht [] _)).run pins s σ H R' I ?_⟩
  rw [evIt] at h
  refine tE_bndI S R h o fun Z1 β1 H1 d v U1 z1 b1 R1 r1 S1 h1 o1 => ?_
  split at h1
  · rename_i src hs
    rw [if_pos rfl] at h1
    cases h1
    obtain ⟨a, vs, rfl, s, ls⟩ := lstSrc R1 hs r1
    exact ⟨a, vs, rfl, s, o1.ok Z1 β1 H1 _ (ZLe.refl _) (BLe.refl _) R1 (walk_enum ls)⟩
  · cases h1
end
end VI

/-! VIc8: what the language gives: the rules. -/
namespace VI
open PySem PySem.Spec PyProof.Rows L2
/-- a call of a built-in by values -/
def rP (X : Cx) (p : P) (m : Bool) : List V → Hp → VK → Prop := fun vs H Q => ∃ Φ Z β U ds d U', Rel X.prog X.w X.K X.mg Φ Z β U H ∧ RepL X.prog X.w X.K Z β ds vs ∧ prim p m ds U = some (.ok d U') ∧ Done X.prog X.w X.K X.mg Φ Z β d U' Q
/-- .. of a method -/
def rM (X : Cx) (p : P) (m : Bool) : V → List V → Hp → VK → Prop := fun v vs H Q => ∃ Φ Z β U a ds d U', Rel X.prog X.w X.K X.mg Φ Z β U H ∧ RepV X.prog X.w X.K Z β a v ∧ RepL X.prog X.w X.K Z β ds vs ∧ prim p m (a :: ds) U = some (.ok d U') ∧ Done X.prog X.w X.K X.mg Φ Z β d U' Q
theorem prim_ok {p : P} {m : Bool} {ds : List D} {U V : Store} {x : Ex} (h : prim p m ds U = some (.ex x V)) : False := by
  unfold prim lenOf listOf mkL mkD at h
  split at h
  all_goals (repeat' split at h)
  all_goals cases h
def isMeth : P → Bool
  | .join | .split | .startswith | .rstrip | .find | .isdigit | .index | .count | .append | .extend | .insert | .pop0 | .pop1 | .clear | .reverse | .get1 | .get2 | .setdefault | .popD => true
  | _ => false
theorem recv_fun {p : P} (h : isMeth p = false) (U : Store) (x : D) : recvOk p U x = true := by cases p <;> first | rfl | cases h
section
variable {X : Cx} {C : Cal} {W : WX} {e e1 e2 e3 : Expr} {a b c : IE} {pos p apos : Pos} {es : List Expr} {as : IEs} {x : Str} {pr : P} {m : Bool}
theorem n_fun0 {f : Value} (hc : CallR X f (rP X pr m)) (hp : isMeth pr = false) : ∀ σ H Q, xE X C W (.prim pr m (.cons a as)) σ H Q → tCB (rP X pr m) (xA X C W (.cons a as)) σ H Q := by
  intro σ H Q ⟨Φ, Z, β, ρ, U, r, S, R, h, o⟩
  rw [ev] at h
  have h : (bnd (evs C (.cons a as) ρ U) fun ds U2 => prim pr m ds U2) = some r := by
    rw [evs]
    cases q : ev C a ρ U with
    | none => simp only [q] at h; cases h
    | some r1 =>
      simp only [q] at h
      cases r1 with
      | ex x V => exact h
      | ok d V =>
        simp only [bnd_ok, recv_fun hp, if_true] at h ⊢
        cases q2 : evs C as ρ V with
        | none => rw [q2] at h; cases h
        | some r2 =>
          rw [q2] at h
          cases r2 with
          | ex x V2 => exact h
          | ok ds V2 => exact h
  refine tA_bnd S R h o.wish fun Z1 β1 H1 ds vs U1 z1 b1 R1 r1 S1 h1 => ?_
  obtain ⟨d3, U3, rfl⟩ := must h1 fun x V => prim_ok
  exact ⟨Φ, Z1, β1, U1, ds, d3, U3, R1, r1, h1, o.monoE z1 b1⟩
theorem n_fun {id : String} (hc : CallR X (.builtin id) (rP X pr m)) (hp : isMeth pr = false) (hg : Gl X x) (hm : X.mg x = none) (hv : bootBuiltins x = some (.builtin id)) (hn : x ≠ "__name__") (hdb : (x == ("__debug__" : Str)) = false) (ht : (e :: es).all tame = true) (ha : PA X (e :: es) (xA X C W (.cons a as))) :
    PE X (.Call (.Name x p) (e :: es) [] pos) (xE X C W (.prim pr m (.cons a as))) := by
  simp only [List.all_cons, Bool.and_eq_true] at ht
  exact (pe_callB hc hg hm hv ha hn hdb (star_tame ht.1 es _) (stars_tame ht.2 pos _)).imp (n_fun0 hc hp)
theorem n_ty {T : String} (hc : CallR X (.type T) (rP X pr m)) (hp : isMeth pr = false) (hg : Gl X x) (hm : X.mg x = none) (hv : bootBuiltins x = some (.type T)) (hn : x ≠ "__name__") (hdb : (x == ("__debug__" : Str)) = false) (ht : (e :: es).all tame = true) (ha : PA X (e :: es) (xA X C W (.cons a as))) :
    PE X (.Call (.Name x p) (e :: es) [] pos) (xE X C W (.prim pr m (.cons a as))) := by
  simp only [List.all_cons, Bool.and_eq_true] at ht
  exact (pe_callTy hc hg hm hv ha hn hdb (star_tame ht.1 es _) (stars_tame ht.2 pos _)).imp (n_fun0 hc hp)
/-- a datum's type in the heap -/
theorem recv_is {pins : List (Addr × Obj)} {σ : L2.St} {H : Hp} {s : Shared} {Φ : List (Addr × HO)} {Z : Hp} {β : List Addr} {U : Store} {d : D} {v : V} {u : Value} (I : Inv X pins σ H s) (R : Rel X.prog X.w X.K X.mg Φ Z β U H) (rd : RepV X.prog X.w X.K Z β d v) (rv : RelV v u) :
    (∀ x, d = .str x → s.TypeIs u "str" ∧ ∀ a, u = .ref a → ∃ ob, s.heap.get? a = some ob ∧ ob.dict = none) ∧
    (∀ xs, asL U d = some xs → s.TypeIs u "list" ∧ ∀ a, u = .ref a → ∃ ob, s.heap.get? a = some ob ∧ ob.dict = none) ∧
    ∀ t kvs, asD U d = some (t, kvs) → s.TypeIs u "dict" ∧ ∀ a, u = .ref a → ∃ ob, s.heap.get? a = some ob ∧ ob.dict = none := by
  refine ⟨fun x e => ?_, fun xs e => ?_, fun t kvs e => ?_⟩
  · subst e
    simp only [RepV] at rd
    subst rd
    exact tyV_is I rv rfl
  · obtain ⟨p, vs, rfl, sq, q⟩ := R.list e rd
    exact tyV_is (T := "list") I rv (.inl ⟨rfl, vs, sq⟩)
  · obtain ⟨p, rfl, h⟩ := R.dict e rd
    cases rv
    rcases h with ⟨_, l, e, q⟩ | ⟨_, l, e, nd, q⟩
    · obtain ⟨_, _, vs, _, dd⟩ := dk_rd I.hok (.inl e)
      refine ⟨dd.typeIs, fun a e => ?_⟩
      cases e
      obtain ⟨o, _, _, h1, h2, _⟩ := dd
      exact ⟨o, h1, h2.2.1⟩
    · obtain ⟨_, _, dd⟩ := dn_heap R I e nd q
      refine ⟨dd.typeIs, fun a e => ?_⟩
      cases e
      obtain ⟨o, _, _, h1, h2, _⟩ := dd
      exact ⟨o, h1, h2.2.1⟩
/-- what a receiver is, by its method -/
theorem recv_ok {T : String} {pins : List (Addr × Obj)} {σ : L2.St} {H : Hp} {s : Shared} {Φ : List (Addr × HO)} {Z : Hp} {β : List Addr} {U : Store} {d : D} {v : V} {u : Value} (I : Inv X pins σ H s) (R : Rel X.prog X.w X.K X.mg Φ Z β U H) (rd : RepV X.prog X.w X.K Z β d v) (rv : RelV v u)
    (h : (T = "str" ∧ ∃ x, d = .str x) ∨ (T = "list" ∧ (asL U d).isSome = true) ∨ (T = "dict" ∧ (asD U d).isSome = true)) : s.TypeIs u T ∧ ∀ a, u = .ref a → ∃ ob, s.heap.get? a = some ob ∧ ob.dict = none := by
  obtain ⟨h1, h2, h3⟩ := recv_is I R rd rv
  rcases h with ⟨rfl, x, e⟩ | ⟨rfl, e⟩ | ⟨rfl, e⟩
  · exact h1 x e
  · obtain ⟨xs, e⟩ := Option.isSome_iff_exists.mp e
    exact h2 xs e
  · obtain ⟨⟨t, kvs⟩, e⟩ := Option.isSome_iff_exists.mp e
    exact h3 t kvs e
/-- the kind of receiver a method has -/
def recvT : P → String
  | .join | .split | .startswith | .rstrip | .find | .isdigit => "str"
  | .get1 | .get2 | .setdefault | .popD => "dict"
  | _ => "list"
theorem recvT_ok {U : Store} {d : D} (hp : isMeth pr = true) (h : recvOk pr U d = true) : (recvT pr = "str" ∧ ∃ x, d = .str x) ∨ (recvT pr = "list" ∧ (asL U d).isSome = true) ∨ (recvT pr = "dict" ∧ (asD U d).isSome = true) := by
  cases pr <;> first
    | (cases hp; done)
    | (refine .inl ⟨rfl, ?_⟩
       simp only [recvOk] at h
       split at h
       · exact ⟨_, rfl⟩
       · cases h
       done)
    | exact .inr (.inl ⟨rfl, h⟩)
    | exact .inr (.inr ⟨rfl, h⟩)
/-- o.m(e, ..) -/
theorem n_meth {name : Str} {id : String} (hp : isMeth pr = true) (pa : PlainAttrs (recvT pr)) (slot : Slot (recvT pr) name id) (hty : typeOf (.builtin id) = pure (.type "method_descriptor")) (hm : MtR X id (rM X pr m)) (hb : noSup e1 = true) (hline : (apos.endLine == pos.line) = true)
    (ht : (e :: es).all tame = true) (hl : (e :: es).length < 20) (ho : PE X e1 (xE X C W a)) (ha : PA X (e :: es) (xA X C W as)) : PE X (.Call (.Attribute e1 name apos) (e :: es) [] pos) (xE X C W (.prim pr m (.cons a as))) := by
  refine ⟨fun pins s σ H Q I ⟨Φ, Z, β, ρ, U, r, S, R, h, o⟩ => ?_⟩
  simp only [List.all_cons, Bool.and_eq_true] at ht
  have hs := star_tame ht.1 es X.env
  have hplain := stars_tame ht.2 pos X.env
  rw [ev] at h
  have hlen : ∀ (es : List Expr), es.all tame = true → (backTo pos (starEach es X.env)).all (fun x => !x.1) = true := fun es h => by
    have := stars_tame h pos X.env
    rw [List.any_eq_false] at this
    rw [List.all_eq_true]
    intro x hx
    simpa using this x hx
  refine wpAny_Call_method_late (attr_noSup hb name X.env _) ?_ hline rfl (L2.thn (ho.run pins s σ H (fun x H1 => ∃ Z β U d r, Rel X.prog X.w X.K X.mg Φ Z β U H1 ∧ RepV X.prog X.w X.K Z β d x ∧ recvOk pr U d = true ∧ RepS X.prog X.w X.K Z β ρ σ ∧ (bnd (evs C as ρ U) fun ds U2 => prim pr m (d :: ds) U2) = some r ∧
    Out X.prog X.w X.K X.mg W Φ Z β σ (fun d U' => Done X.prog X.w X.K X.mg Φ Z β d U' Q) r) I ?_) fun v s1 ⟨x, H1, I1, r1, Z1, β1, U1, d, r, R1, rd, hr, S1, h1, o1⟩ => ?_)
  · have e1 : (backTo pos (starEach (e :: es) X.env)).all (fun x => !x.1) = true := hlen (e :: es) (by simp [ht])
    rw [e1]
    simp only [Bool.true_and]
    have e2 : (backToKw pos (keywordEach [] X.env)).all (fun x => x.1.isSome) = true := rfl
    rw [e2]
    simp only [Bool.true_and, decide_eq_true_eq]
    simp only [List.isEmpty_nil, if_true, List.length_nil]
    omega
  · refine tE_bnd S R h o.wish fun Z1 β1 H1 d v U1 z1 b1 R1 r1 S1 h1 => ?_
    split at h1
    · rename_i hr
      exact ⟨Z1, β1, U1, d, r, R1, r1, hr, S1, h1, o.monoE z1 b1⟩
    · cases h1
  · obtain ⟨t1, t2⟩ := recv_ok I1 R1 rd r1 (recvT_ok hp hr)
    refine ⟨recvT pr, id, pa, slot, hty, t1, t2, ?_⟩
    have hA := ha.run pos pins s1 σ H1 (fun vs H2 => rM X pr m x vs H2 Q) I1 (tA_bnd S1 R1 h1 o1.wish fun Z2 β2 H2 ds vs U2 z2 b2 R2 r2 S2 h2 => by
      obtain ⟨d3, U3, rfl⟩ := must h2 fun x V => prim_ok
      exact ⟨Φ, Z2, β2, U2, d, ds, d3, U3, R2, RepV.mono z2 b2 rd, r2, h2, o1.monoE z2 b2⟩)
    rw [hs] at hA ⊢
    refine Calls.callWith_builtin (by show (false || (backTo pos (starEach es X.env)).any (·.1)) = false; rw [hplain]; rfl) (Calls.evalArgs_plain ?_)
    exact L2.thn hA fun us s2 ⟨vs, H2, I2, r2, q2⟩ => hm pins s2 σ H2 x vs v us Q I2 r1 r2 q2
/-- o.m() -/
theorem n_meth0 {name : Str} {id : String} (hp : isMeth pr = true) (pa : PlainAttrs (recvT pr)) (slot : Slot (recvT pr) name id) (hty : typeOf (.builtin id) = pure (.type "method_descriptor")) (hm : MtR X id (rM X pr m)) (hb : noSup e1 = true) (hline : (apos.endLine == pos.line) = true)
    (ho : PE X e1 (xE X C W a)) : PE X (.Call (.Attribute e1 name apos) [] [] pos) (xE X C W (.prim pr m (.cons a .nil))) := by
  refine ⟨fun pins s σ H Q I ⟨Φ, Z, β, ρ, U, r, S, R, h, o⟩ => ?_⟩
  rw [ev] at h
  refine wpAny_Call_method0_late (attr_noSup hb name X.env _) hline (L2.thn (ho.run pins s σ H (fun x H1 => ∃ Z β U d r, Rel X.prog X.w X.K X.mg Φ Z β U H1 ∧ RepV X.prog X.w X.K Z β d x ∧ recvOk pr U d = true ∧ prim pr m [d] U = some r ∧
    Out X.prog X.w X.K X.mg W Φ Z β σ (fun d U' => Done X.prog X.w X.K X.mg Φ Z β d U' Q) r) I ?_) fun v s1 ⟨x, H1, I1, r1, Z1, β1, U1, d, r, R1, rd, hr, h1, o1⟩ => ?_)
  · refine tE_bnd S R h o.wish fun Z1 β1 H1 d v U1 z1 b1 R1 r1 S1 h1 => ?_
    split at h1
    · rename_i hr
      rw [evs, bnd_ok] at h1
      exact ⟨Z1, β1, U1, d, r, R1, r1, hr, h1, o.monoE z1 b1⟩
    · cases h1
  · obtain ⟨t1, t2⟩ := recv_ok I1 R1 rd r1 (recvT_ok hp hr)
    obtain ⟨d3, U3, rfl⟩ := must h1 fun x V => prim_ok
    refine ⟨recvT pr, id, pa, slot, hty, t1, t2, Calls.callWith_builtin rfl (PySem.evalArgs_none (hm pins s1 σ H1 x [] v [] Q I1 r1 .nil ⟨Φ, Z1, β1, U1, d, [], d3, U3, R1, rd, RepL.nil, h1, o1⟩))⟩
end
end VI

/-! VIc9: what the language gives, one by one. -/
namespace VI
open PySem PySem.Spec PyProof.Rows L2
section
variable {X : Cx} {C : Cal} {W : WX} {m : Bool}
theorem one_rep {P : Program} {w : World} {K : PySem.W.Frag} {Z : Hp} {β : List Addr} {d : D} {vs : List V} (h : RepL P w K Z β [d] vs) : ∃ v, vs = [v] ∧ RepV P w K Z β d v := by
  simp only [RepL] at h
  obtain ⟨v, s, rfl, r, rfl⟩ := h
  exact ⟨v, rfl, r⟩
theorem two_rep {P : Program} {w : World} {K : PySem.W.Frag} {Z : Hp} {β : List Addr} {d e : D} {vs : List V} (h : RepL P w K Z β [d, e] vs) : ∃ v u, vs = [v, u] ∧ RepV P w K Z β d v ∧ RepV P w K Z β e u := by
  simp only [RepL] at h
  obtain ⟨v, s, rfl, r, u, s2, rfl, r2, rfl⟩ := h
  exact ⟨v, u, rfl, r, r2⟩
/-- dicts' len -/
theorem call_len_d : CallR X (.builtin "len") (fun xs H Q => ∃ x Φ Z β U a kvs, xs = [x] ∧ Rel X.prog X.w X.K X.mg Φ Z β U H ∧ RepV X.prog X.w X.K Z β a x ∧ asD U a = some (0, kvs) ∧ Q (.int kvs.length) H) := by
  intro pins s σ H xs us Q I r ⟨x, Φ, Z, β, U, a, kvs, e, R, ra, hd, q⟩
  subst e
  obtain ⟨u, rfl, rx⟩ := vals1 r
  obtain ⟨p, rfl, h⟩ := R.dict hd ra
  cases rx
  rcases h with ⟨_, l, e, q1⟩ | ⟨h0, _⟩
  · refine d_len I (.inl e) fun tk s' I' => ⟨.int _, H, I', ⟨tk, rfl⟩, ?_⟩
    rw [← repK_len q1]
    exact q
  · cases h0
theorem c_len : CallR X (.builtin "len") (rP X .len m) := by
  refine CallR.imp ((call_len_seq.or call_len_str).or call_len_d) ?_
  rintro vs H Q ⟨Φ, Z, β, U, ds, d', U', R, q, e, dn⟩
  cases ds with
  | nil => simp [prim] at e
  | cons d ds =>
    cases ds with
    | cons _ _ => simp [prim] at e
    | nil =>
      obtain ⟨v, rfl, r⟩ := one_rep q
      rw [prim] at e
      unfold lenOf at e
      split at e
      · rename_i x
        split at e
        · rename_i hx
          obtain ⟨rfl, rfl⟩ := ok_inj e
          simp only [RepV] at r
          subst r
          refine .inl (.inr ⟨_, rfl, by rw [str_len, ← SZ_eq]; exact hx, ?_⟩)
          rw [str_len]
          exact dn.int R
        · cases e
      · split at e
        · rename_i xs hq
          obtain ⟨rfl, rfl⟩ := ok_inj e
          obtain ⟨p, ws, rfl, sq, q2⟩ := R.seq hq r
          refine .inl (.inl ⟨p, ws, rfl, sq, ?_⟩)
          rw [← q2.length]
          exact dn.int R
        · split at e
          · rename_i t kvs hd
            split at e
            · rename_i ht
              subst ht
              obtain ⟨rfl, rfl⟩ := ok_inj e
              exact .inr ⟨v, Φ, Z, β, U, d, kvs, rfl, R, r, hd, dn.int R⟩
            · cases e
          · cases e
/-! ### split at a sign -/
theorem spl_one (c : Nat) : ∀ (x acc : List Nat), TL.spl [c] 0 acc x = (match splitC c x with | [] => [] | w :: ws => (acc ++ w) :: ws)
  | [], acc => by simp [TL.spl, splitC]
  | y :: r, acc => by
    have ih := spl_one c r
    by_cases h : y = c
    · have hp : TL.pre [c] (y :: r) = true := by subst h; simp [TL.pre]
      rw [TL.spl_hit hp]
      simp only [splitC, if_pos h]
      have := ih []
      simp only [List.nil_append] at this
      simp only [List.length_singleton, Nat.sub_self, List.append_nil]
      rw [this]
      cases q : splitC c r with
      | nil => rfl
      | cons w ws => rfl
    · have hp : TL.pre [c] (y :: r) = false := by
        simp [TL.pre]
        exact fun z => h z
      rw [TL.spl_miss hp, ih]
      simp only [splitC, if_neg h]
      cases q : splitC c r with
      | nil =>
        exfalso
        have ne : ∀ x : List Nat, splitC c x ≠ [] := by
          intro x
          induction x with
          | nil => simp [splitC]
          | cons z t ih2 =>
            simp only [splitC]
            split
            · simp
            · split <;> simp
        exact ne _ q
      | cons w ws => simp
theorem tl_of (x : Tx) : TL.tl (⟨x.toArray⟩ : Str) = x := rfl
theorem str_of_tl (s : Str) : (⟨(TL.tl s).toArray⟩ : Str) = s := by
  cases s
  simp [TL.tl]
theorem m_split : MtR X "str.split" (rM X .split m) := by
  refine MtR.imp mt_split ?_
  rintro v vs H Q ⟨Φ, Z, β, U, a, ds, d', U', R, ra, q, e, dn⟩
  have sh : ∃ x c, a = .str x ∧ ds = [.str [c]] := by
    unfold prim at e
    split at e <;> first
      | (rename_i x c; exact ⟨x, c, by simp_all, by simp_all⟩)
      | simp_all
  obtain ⟨x, c, rfl, rfl⟩ := sh
  rw [prim] at e
  split at e
  · rename_i hx
    obtain ⟨u, rfl, ru⟩ := one_rep q
    simp only [RepV] at ra ru
    subst ra ru
    refine ⟨_, _, rfl, rfl, by simp [Str.length], by rw [str_len, ← SZ_eq]; exact hx.1, fun p hp => ?_⟩
    have hk := TL.split_spl (⟨x.toArray⟩ : Str) (⟨[c].toArray⟩ : Str) (by simp [TL.tl]) (TL.kind_ok (by simp; omega))
    rw [tl_of, tl_of, spl_one] at hk
    have e1 : (Txt.split ⟨x.toArray⟩ ⟨[c].toArray⟩).map V.str = ((splitC c x).map fun z => V.str ⟨z.toArray⟩) := by
      have : (Txt.split ⟨x.toArray⟩ ⟨[c].toArray⟩).map TL.tl = splitC c x := by
        rw [hk]
        cases splitC c x <;> simp
      rw [← this, List.map_map]
      refine List.map_congr_left fun s _ => ?_
      simp only [Function.comp_apply]
    rw [e1]
    refine dn.lst R e ?_ hp
    have : ∀ zs : List Tx, RepL X.prog X.w X.K Z β (zs.map .str) (zs.map fun z => V.str ⟨z.toArray⟩) := by
      intro zs
      induction zs with
      | nil => exact RepL.nil
      | cons z zs ih =>
        refine RepL.cons ?_ ih
        simp only [RepV]
    exact this _
  · cases e
end
end VI

/-! VIc10: numbers, texts, lists: built-ins by values. -/
namespace VI
open PySem PySem.Spec PyProof.Rows L2
theorem MtM.imp {X : Cx} {id : String} {r r' : V → List V → Hp → VK → Prop} (h : MtM X id r) (i : ∀ x xs H Q, r' x xs H Q → r x xs H Q) : MtR X id r' := fun pins s σ H x xs v us Q I rx rxs q => h pins s σ H x xs v us Q I rx rxs (i x xs H Q q)
section
variable {X : Cx} {m : Bool}
/-- a built-in that takes one, two data -/
theorem fun1 {f : Value} {p : P} {r : List V → Hp → VK → Prop} (h : CallR X f r) (sh : ∀ ds U d U', prim p m ds U = some (.ok d U') → ∃ x, ds = [x])
    (i : ∀ Φ Z β U x d U' v H Q, Rel X.prog X.w X.K X.mg Φ Z β U H → RepV X.prog X.w X.K Z β x v → prim p m [x] U = some (.ok d U') → Done X.prog X.w X.K X.mg Φ Z β d U' Q → r [v] H Q) : CallR X f (rP X p m) := by
  refine CallR.imp h ?_
  rintro vs H Q ⟨Φ, Z, β, U, ds, d, U', R, q, e, dn⟩
  obtain ⟨x, rfl⟩ := sh _ _ _ _ e
  obtain ⟨v, rfl, rv⟩ := one_rep q
  exact i Φ Z β U x d U' v H Q R rv e dn
theorem fun2 {f : Value} {p : P} {r : List V → Hp → VK → Prop} (h : CallR X f r) (sh : ∀ ds U d U', prim p m ds U = some (.ok d U') → ∃ x y, ds = [x, y])
    (i : ∀ Φ Z β U x y d U' v u H Q, Rel X.prog X.w X.K X.mg Φ Z β U H → RepV X.prog X.w X.K Z β x v → RepV X.prog X.w X.K Z β y u → prim p m [x, y] U = some (.ok d U') → Done X.prog X.w X.K X.mg Φ Z β d U' Q → r [v, u] H Q) : CallR X f (rP X p m) := by
  refine CallR.imp h ?_
  rintro vs H Q ⟨Φ, Z, β, U, ds, d, U', R, q, e, dn⟩
  obtain ⟨x, y, rfl⟩ := sh _ _ _ _ e
  obtain ⟨v, u, rfl, rv, ru⟩ := two_rep q
  exact i Φ Z β U x y d U' v u H Q R rv ru e dn
theorem c_abs : CallR X (.builtin "abs") (rP X .abs m) := by
  refine fun1 call_abs (fun ds U d U' e => ?_) fun Φ Z β U x d U' v H Q R r e dn => ?_
  · unfold prim at e
    split at e <;> first | exact ⟨_, rfl⟩ | simp_all
  · cases x with
    | int i =>
      rw [prim] at e
      obtain ⟨rfl, rfl⟩ := ok_inj e
      simp only [RepV] at r
      subst r
      exact ⟨i, rfl, dn.int R⟩
    | _ => simp [prim] at e
theorem c_max2 (hc : X.calm = true) : CallR X (.builtin "max") (rP X .max2 m) := by
  refine fun2 (call_max2 hc) (fun ds U d U' e => ?_) fun Φ Z β U x y d U' v u H Q R r r2 e dn => ?_
  · unfold prim at e
    split at e <;> first | exact ⟨_, _, rfl⟩ | simp_all
  · cases x <;> cases y <;> simp only [prim, reduceCtorEq] at e
    rename_i i j
    obtain ⟨rfl, rfl⟩ := ok_inj e
    simp only [RepV] at r r2
    subst r r2
    exact ⟨i, j, rfl, dn.int R⟩
theorem c_min2 (hc : X.calm = true) : CallR X (.builtin "min") (rP X .min2 m) := by
  refine fun2 (call_min2 hc) (fun ds U d U' e => ?_) fun Φ Z β U x y d U' v u H Q R r r2 e dn => ?_
  · unfold prim at e
    split at e <;> first | exact ⟨_, _, rfl⟩ | simp_all
  · cases x <;> cases y <;> simp only [prim, reduceCtorEq] at e
    rename_i i j
    obtain ⟨rfl, rfl⟩ := ok_inj e
    simp only [RepV] at r r2
    subst r r2
    exact ⟨i, j, rfl, dn.int R⟩
theorem show_eq (i : Int) : (Str.ofString (toString i)) = ⟨(showI i).toArray⟩ := by
  refine TL.ext_tl ?_
  rw [TL.tl_ofString]
  rfl
theorem c_str1 : CallR X (.type "str") (rP X .str1 m) := by
  refine fun1 (call_str_int.or SkE.call_str_str) (fun ds U d U' e => ?_) fun Φ Z β U x d U' v H Q R r e dn => ?_
  · unfold prim at e
    split at e <;> first | exact ⟨_, rfl⟩ | simp_all
  · cases x with
    | int i =>
      rw [prim] at e
      split at e
      · rename_i hb
        obtain ⟨rfl, rfl⟩ := ok_inj e
        simp only [RepV] at r
        subst r
        refine .inl ⟨i, rfl, ?_, ?_⟩
        · unfold bits at hb
          split at hb
          · rename_i h0
            subst h0
            decide
          · omega
        · have := dn.str R
          rw [← show_eq] at this
          exact this
      · cases e
    | str z =>
      rw [prim] at e
      obtain ⟨rfl, rfl⟩ := ok_inj e
      simp only [RepV] at r
      subst r
      exact .inr ⟨_, rfl, dn.str R⟩
    | _ => simp [prim] at e
theorem read_eq : ∀ (x : Tx) (n : Nat), x.foldl (fun acc c => acc * 10 + (c - 48)) n = x.foldl (fun n c => n * 10 + (c - 48)) n := fun _ _ => rfl
theorem c_int1 : CallR X (.type "int") (rP X .int1 m) := by
  refine fun1 (call_int1.or call_int_str) (fun ds U d U' e => ?_) fun Φ Z β U x d U' v H Q R r e dn => ?_
  · unfold prim at e
    split at e <;> first | exact ⟨_, rfl⟩ | simp_all
  · cases x with
    | int i =>
      rw [prim] at e
      obtain ⟨rfl, rfl⟩ := ok_inj e
      simp only [RepV] at r
      subst r
      exact .inl (.inl ⟨i, rfl, dn.int R⟩)
    | bl b =>
      rw [prim] at e
      obtain ⟨rfl, rfl⟩ := ok_inj e
      simp only [RepV] at r
      subst r
      exact .inl (.inr ⟨b, rfl, dn.int R⟩)
    | str z =>
      rw [prim] at e
      split at e
      · rename_i hz
        obtain ⟨rfl, rfl⟩ := ok_inj e
        simp only [RepV] at r
        subst r
        have ha : NumText.AllDigits z := fun c hc => by
          have := List.all_eq_true.mp hz.2.1 c hc
          simp only [isFig, Bool.and_eq_true, decide_eq_true_eq] at this
          exact this
        refine .inr ⟨_, _, rfl, intText_digits (x := ⟨z.toArray⟩) ha (by simpa using hz.1) (by rw [str_len]; omega), by rw [str_len]; omega, ?_⟩
        exact dn.int R
      · cases e
    | _ => simp [prim] at e
theorem pre_isPre : ∀ (y x : Tx), TL.pre y x = isPre y x
  | [], x => by simp [TL.pre, isPre]
  | a :: y, [] => by simp [TL.pre, isPre]
  | a :: y, b :: x => by
    have ih := pre_isPre y x
    unfold TL.pre at ih ⊢
    simp only [isPre, List.length_cons, List.take_succ_cons]
    rw [← ih]
    by_cases h : b = a
    · subst h; simp
    · have h' : ¬ a = b := fun z => h z.symm
      have e : (b :: List.take y.length x == a :: y) = false := by simp [h]
      simp [e, h']
theorem m_startswith : MtR X "str.startswith" (rM X .startswith m) := by
  refine MtR.imp mt_startswith ?_
  rintro v vs H Q ⟨Φ, Z, β, U, a, ds, d', U', R, ra, q, e, dn⟩
  have sh : ∃ x y, a = .str x ∧ ds = [.str y] := by
    unfold prim at e
    split at e <;> first
      | (rename_i x y; exact ⟨x, y, by simp_all, by simp_all⟩)
      | simp_all
  obtain ⟨x, y, rfl, rfl⟩ := sh
  rw [prim] at e
  split at e
  · cases e
  · rename_i hy
    obtain ⟨rfl, rfl⟩ := ok_inj e
    obtain ⟨u, rfl, ru⟩ := one_rep q
    simp only [RepV] at ra ru
    subst ra ru
    refine ⟨_, _, rfl, rfl, ?_⟩
    have h := TL.at_iff (x := ⟨x.toArray⟩) (y := ⟨y.toArray⟩) (by simpa [TL.tl] using hy) 0
    have e1 : Txt.startswith ⟨x.toArray⟩ ⟨y.toArray⟩ = isPre y x := by
      rw [← pre_isPre]
      have h2 : (Txt.startswith ⟨x.toArray⟩ ⟨y.toArray⟩ = true) ↔ TL.pre y x = true := by
        rw [List.drop_zero] at h
        refine Iff.trans ?_ h
        unfold Txt.startswith
        rw [Bool.and_eq_true, decide_eq_true_eq]
        exact Iff.rfl
      cases q1 : Txt.startswith ⟨x.toArray⟩ ⟨y.toArray⟩ <;> cases q2 : TL.pre y x <;> simp_all
    rw [e1]
    exact dn.bl R
theorem findC_none {c : Nat} : ∀ {x : Tx} {n : Nat}, c ∉ x → findC c x n = -1
  | [], n, _ => rfl
  | y :: r, n, h => by
    simp only [List.mem_cons, not_or] at h
    simp only [findC]
    rw [if_neg (fun z => h.1 z.symm)]
    exact findC_none h.2
theorem findC_at {c : Nat} : ∀ {x : Tx} {n i : Nat}, x[i]? = some c → (∀ k, k < i → x[k]? ≠ some c) → findC c x n = ((n + i : Nat) : Int)
  | [], n, i, h, _ => by simp at h
  | y :: r, n, 0, h, _ => by
    simp only [List.getElem?_cons_zero, Option.some.injEq] at h
    subst h
    simp [findC]
  | y :: r, n, i + 1, h, hn => by
    have h0 : y ≠ c := fun z => hn 0 (by omega) (by simp [z])
    simp only [findC, if_neg h0]
    rw [findC_at (i := i) (by simpa using h) fun k hk => by
      have := hn (k + 1) (by omega)
      simpa using this]
    congr 1
    omega
theorem m_find : MtR X "str.find" (rM X .find m) := by
  refine MtR.imp mt_find ?_
  rintro v vs H Q ⟨Φ, Z, β, U, a, ds, d', U', R, ra, q, e, dn⟩
  have sh : ∃ x c, a = .str x ∧ ds = [.str [c]] := by
    unfold prim at e
    split at e <;> first
      | (rename_i x c; exact ⟨x, c, by simp_all, by simp_all⟩)
      | simp_all
  obtain ⟨x, c, rfl, rfl⟩ := sh
  rw [prim] at e
  obtain ⟨rfl, rfl⟩ := ok_inj e
  obtain ⟨u, rfl, ru⟩ := one_rep q
  simp only [RepV] at ra ru
  subst ra ru
  refine ⟨_, _, rfl, rfl, ?_⟩
  have at_ : ∀ i, StrLaws.At (⟨x.toArray⟩ : Str) ⟨[c].toArray⟩ (⟨x.toArray⟩ : Str).length i ↔ x[i]? = some c := fun i => by
    rw [TL.at_iff (x := ⟨x.toArray⟩) (y := ⟨[c].toArray⟩) (by simp [TL.tl])]
    show TL.pre [c] (x.drop i) = true ↔ _
    rw [pre_isPre]
    cases q : x.drop i with
    | nil =>
      have : x.length ≤ i := by simpa using q
      simp [isPre, List.getElem?_eq_none this]
    | cons z t =>
      have hz : x[i]? = some z := by
        have := congrArg (fun l => l[0]?) q
        simpa using this
      simp only [isPre, Bool.and_true, decide_eq_true_eq, hz, Option.some.injEq]
      exact eq_comm
  have key : Txt.find ⟨x.toArray⟩ ⟨[c].toArray⟩ = findC c x 0 := by
    unfold Txt.find
    rcases StrLaws.occ_head (⟨x.toArray⟩ : Str) ⟨[c].toArray⟩ 1 (Nat.le_refl 1) with ⟨h1, h2⟩ | ⟨i, r, h1, h2, h3⟩
    · rw [h1]
      rw [findC_none fun hm => ?_]
      obtain ⟨i, hi, e⟩ := List.mem_iff_getElem.mp hm
      exact h2 i ((at_ i).mpr (by rw [List.getElem?_eq_getElem hi, e]))
    · rw [h1]
      rw [findC_at ((at_ i).mp h2) fun k hk z => h3 k hk ((at_ k).mpr z)]
      simp
  rw [key]
  exact dn.int R
/-! ### lists -/
theorem keys_rep {P : Program} {w : World} {K : PySem.W.Frag} {Z : Hp} {β : List Addr} : ∀ {kvs : List (D × D)} {l : List (Key × V)}, RepK P w K Z β kvs l → RepL P w K Z β (kvs.map (·.1)) (l.map fun kv => kV kv.1)
  | [], l, h => by
    simp only [RepK] at h
    subst h
    exact RepL.nil
  | (k, x) :: r, l, h => by
    simp only [RepK] at h
    obtain ⟨kk, v, s, rfl, hk, _, q⟩ := h
    refine RepL.cons ?_ (keys_rep q)
    cases k <;> simp [keyD] at hk <;> subst hk <;> simp only [RepV] <;> rfl
theorem c_list1 (hc : X.calm = true) : CallR X (.type "list") (rP X .list1 m) := by
  refine fun1 (call_list_of.or (call_listD hc)) (fun ds U d U' e => ?_) fun Φ Z β U x d U' v H Q R r e dn => ?_
  · unfold prim at e
    split at e <;> first | exact ⟨_, rfl⟩ | simp_all
  · rw [prim] at e
    unfold listOf at e
    split at e
    · rename_i xs hq
      obtain ⟨p, vs, rfl, sq, q⟩ := R.seq hq r
      exact .inl ⟨p, vs, rfl, sq, fun l hl => dn.lst R e q hl⟩
    · split at e
      · rename_i t kvs hd
        split at e
        · rename_i h0
          subst h0
          obtain ⟨p, rfl, h⟩ := R.dict hd r
          rcases h with ⟨_, l, e1, q⟩ | ⟨h0, _⟩
          · exact .inr ⟨p, l, rfl, .inl e1, fun q1 hq1 => dn.lst R e (keys_rep q) hq1⟩
          · cases h0
        · cases e
      · cases e
theorem c_tuple1 : CallR X (.type "tuple") (rP X .tuple1 m) := by
  refine fun1 call_tuple_of (fun ds U d U' e => ?_) fun Φ Z β U x d U' v H Q R r e dn => ?_
  · unfold prim at e
    split at e <;> first | exact ⟨_, rfl⟩ | simp_all
  · rw [prim] at e
    split at e
    · rename_i xs hq
      obtain ⟨rfl, rfl⟩ := ok_inj e
      by_cases ht : ∃ ys, x = .tup ys
      · obtain ⟨ys, rfl⟩ := ht
        cases hq
        obtain ⟨p, vs, rfl, sq, q⟩ := R.tuple r
        exact ⟨p, vs, rfl, .inr ⟨sq, dn.same R r⟩⟩
      · have hl : asL U x = some xs := by
          cases x <;> simp_all [asQ]
        obtain ⟨p, vs, rfl, sq, q⟩ := R.list hl r
        exact ⟨p, vs, rfl, .inl ⟨sq, fun l hl => dn.tup R q hl⟩⟩
    · cases e
/-- a method that changes the list at a store's place -/
theorem mut_at {Φ : List (Addr × HO)} {Z : Hp} {β : List Addr} {U : Store} {H : Hp} {n : Nat} {xs : List D} {v : V} (R : Rel X.prog X.w X.K X.mg Φ Z β U H) (rv : RepV X.prog X.w X.K Z β (.ref n) v) (hu : U[n]? = some (.lst xs)) : ∃ a vs, v = .ref a ∧ β[n]? = some a ∧ H a = some (.lst vs) ∧ RepL X.prog X.w X.K Z β xs vs := by
  simp only [RepV] at rv
  obtain ⟨a, rfl, e⟩ := rv
  obtain ⟨vs, h1, h2⟩ := R.ref hu e
  exact ⟨a, vs, rfl, e, h1, h2⟩
theorem mut_done {Φ : List (Addr × HO)} {Z : Hp} {β : List Addr} {U : Store} {H : Hp} {n : Nat} {ys : List D} {us : List V} {a : Addr} (R : Rel X.prog X.w X.K X.mg Φ Z β U H) (e : β[n]? = some a) (q : RepL X.prog X.w X.K Z β ys us) : Rel X.prog X.w X.K X.mg Φ Z β (updS U n (.lst ys)) (L2.upd H a (.lst us)) :=
  R.write e ⟨us, L2.upd_same, q⟩
theorem m_append : MtR X "list.append" (rM X .append m) := by
  refine MtM.imp mt_append ?_
  rintro v vs H Q ⟨Φ, Z, β, U, a, ds, d', U', R, ra, q, e, dn⟩
  have sh : ∃ n x, a = .ref n ∧ ds = [x] := by
    unfold prim at e
    split at e <;> first
      | (rename_i n x; exact ⟨n, x, by simp_all, by simp_all⟩)
      | simp_all
  obtain ⟨n, x, rfl, rfl⟩ := sh
  rw [prim] at e
  split at e
  · rename_i xs hu
    split at e
    · rename_i hz
      obtain ⟨rfl, rfl⟩ := ok_inj e
      obtain ⟨u, rfl, ru⟩ := one_rep q
      obtain ⟨p, ws, rfl, e1, h1, h2⟩ := mut_at R ra hu
      exact ⟨p, ws, u, rfl, rfl, h1, by rw [← h2.length, ← SZ_eq]; exact hz, dn.non (mut_done R e1 (h2.append (RepL.cons ru RepL.nil)))⟩
    · cases e
  · cases e
end
end VI

/-! VIc11: dict displays, item stores, any, all, join, more list methods. -/
namespace VI
open PySem PySem.Spec PyProof.Rows L2
section
variable {X : Cx} {C : Cal} {W : WX} {m : Bool} {e e1 e2 e3 : Expr} {a b c : IE} {pos p : Pos}
/-! ### {} -/
theorem n_dnil {t : Nat} (ht : t = 0 ∨ t = 1) : PE X (.Dict [] [] pos) (xE X C W (.dnil m t)) := by
  rcases ht with rfl | rfl
  · refine pe_dnewK.imp fun σ H Q ⟨Φ, Z, β, ρ, U, r, S, R, h, o⟩ => fun p hp => ?_
    rw [ev] at h
    unfold mkD at h
    split at h
    · cases h
      obtain ⟨R', b'⟩ := R.push hp (u := .dK []) (o := .dct 0 []) (.inl ⟨rfl, [], L2.upd_same, by simp only [RepK]⟩)
      refine o.ok Z _ _ (.ref p) (ZLe.refl _) b' R' ?_
      simp only [RepV]
      exact ⟨p, rfl, by rw [← R.len]; simp⟩
    · cases h
      obtain ⟨R', z'⟩ := R.froze hp (.dK [])
      refine o.ok _ β _ (.ref p) z' (BLe.refl _) R' ?_
      simp only [RepV]
      exact ⟨p, rfl, .inl ⟨trivial, [], L2.upd_same, by simp only [RepK]⟩⟩
  · refine ⟨fun pins s σ H Q I ⟨Φ, Z, β, ρ, U, r, S, R, h, o⟩ => ?_⟩
    rw [ev] at h
    have hp : H s.heap.objs.size = none := I.hok.fresh (Nat.le_refl _)
    have new : ObjOk X.prog X.w (L2.upd H s.heap.objs.size (dN X.prog X.w s.heap.objs.size [])) (s.heap.push { cls := .type "dict", data := .dict #[] }) s.heap.objs.size (dN X.prog X.w s.heap.objs.size []) :=
      dn_ok (beq_eq_false_iff_ne.mpr (Ne.symm (Nat.ne_of_lt I.big))) (Nat.zero_le _) (Heap.DictOfH.new s.heap)
    refine wpAny_Dict_empty ⟨.ref s.heap.objs.size, _, I.laid (a := s.heap.objs.size) (o := dN X.prog X.w s.heap.objs.size []) (t' := s.toks) (fun _ _ q => Heap.get?_push_of_some _ q) (Nat.le_refl _) new, rfl, ?_⟩
    unfold mkD at h
    split at h
    · cases h
      obtain ⟨R', b'⟩ := R.push hp (u := dN X.prog X.w s.heap.objs.size []) (o := .dct 1 []) (.inr ⟨rfl, [], L2.upd_same, List.nodup_nil, by simp only [RepT]⟩)
      refine o.ok Z _ _ (.ref _) (ZLe.refl _) b' R' ?_
      simp only [RepV]
      exact ⟨_, rfl, by rw [← R.len]; simp⟩
    · cases h
      obtain ⟨R', z'⟩ := R.froze hp (dN X.prog X.w s.heap.objs.size [])
      refine o.ok _ β _ (.ref _) z' (BLe.refl _) R' ?_
      simp only [RepV]
      exact ⟨_, rfl, .inr ⟨trivial, [], .inl L2.upd_same, List.nodup_nil, by simp only [RepT]⟩⟩
/-! ### o[i] = e -/
theorem setIx_ok {o i v : D} {U V : Store} {x : Ex} (h : setIx o i v U = some (.ex x V)) : False := by
  unfold setIx at h
  repeat' split at h
  all_goals cases h
/-- by values -/
def rSet (X : Cx) : TSet := fun o i v H Q => ∃ Φ Z β U a k d U', Rel X.prog X.w X.K X.mg Φ Z β U H ∧ RepV X.prog X.w X.K Z β a o ∧ RepV X.prog X.w X.K Z β k i ∧ RepV X.prog X.w X.K Z β d v ∧ setIx a k d U = some (.ok () U') ∧ DoneB X.prog X.w X.K X.mg Φ Z β U' Q
theorem set_all (hu : X.A.units + 64 < cLine) : PSet X (rSet X) := by
  intro pins s σ H o i v ov iv u Q I ro ri rv ⟨Φ, Z, β, U, a, k, d, U', R, ra, rk, rd, e, dn⟩
  unfold setIx at e
  split at e
  · rename_i n
    split at e
    · rename_i xs hu'
      split at e
      · rename_i i'
        split at e
        · rename_i j hj
          obtain ⟨_, rfl⟩ := ok_inj e
          obtain ⟨pp, vs, rfl, e1, h1, h2⟩ := mut_at R ra hu'
          simp only [RepV] at rk
          subst rk
          refine set_list pins s σ H _ _ v ov iv u Q I ro ri rv ⟨pp, vs, i', j, rfl, rfl, h1, ?_, dn Z β _ (ZLe.refl _) (BLe.refl _) (mut_done R e1 (h2.set rd))⟩
          rw [← h2.length]
          exact hj
        · cases e
      · cases e
    · rename_i t kvs hu'
      split at e
      · rename_i hk
        obtain ⟨_, rfl⟩ := ok_inj e
        exact vs_set hu R I hu' hk.1 hk.2 ra rk rd ro ri rv fun H' s' I' R' => ⟨H', I', dn Z β H' (ZLe.refl _) (BLe.refl _) R'⟩
      · cases e
    · cases e
  · cases e
theorem s_asgI (hu : X.A.units + 64 < cLine) (hn : noTup e = true) (ha : PE X e (xE X C W a)) (hb : PE X e1 (xE X C W b)) (hc : PE X e2 (xE X C W c)) (ht : tame e2 = true) : PS X (.Assign [.Subscript e1 e2 p] e pos) (xS X C W (.asgI b c a)) := by
  refine (ps_asg ha (pg_sub hb hc (set_all hu) (by cases e2 <;> first | (intro _; rfl) | cases ht)) (by show swapsWith e (some (.Subscript e1 e2 p)) pos.line X.env = pure false; cases e <;> rfl) (stores_no hn _ _) rfl).imp fun E σ H ⟨Φ, Z, β, ρ, U, r, S, R, h, o⟩ => ?_
  rw [exec] at h
  refine tE_bndS S R h o fun Z1 β1 H1 d v U1 z1 b1 R1 r1 S1 h1 o1 => ?_
  refine tE_bndS S1 R1 h1 o1 fun Z2 β2 H2 d2 v2 U2 z2 b2 R2 r2 S2 h2 o2 => ?_
  refine tE_bndS S2 R2 h2 o2 fun Z3 β3 H3 d3 v3 U3 z3 b3 R3 r3 S3 h3 o3 => ?_
  cases q : setIx d2 d3 d U3 with
  | none => rw [q] at h3; cases h3
  | some r4 =>
    rw [q] at h3
    cases r4 with
    | ex x V => exact (setIx_ok q).elim
    | ok _ U4 =>
      cases h3
      refine ⟨Φ, Z3, β3, U3, d2, d3, d, U4, R3, RepV.mono z3 b3 r2, r3, RepV.mono (z2.trans z3) (b2.trans b3) r1, q, fun Z4 β4 H4 z4 b4 R4 => ?_⟩
      exact o3 Z4 β4 H4 σ z4 b4 R4 (S3.mono z4 b4)
end
end VI

/-! VIc12: any, all, join, list methods. -/
namespace VI
open PySem PySem.Spec PyProof.Rows L2
section
variable {X : Cx} {m : Bool}
theorem bools_rep {P : Program} {w : World} {K : PySem.W.Frag} {Z : Hp} {β : List Addr} : ∀ {xs : List D} {bs : List Bool} {vs : List V}, bools xs = some bs → RepL P w K Z β xs vs → vs = bs.map V.bl
  | [], bs, vs, h, q => by
    cases h
    simp only [RepL] at q
    subst q
    rfl
  | x :: r, bs, vs, h, q => by
    unfold bools at h
    split at h
    · rename_i e0
      cases e0
    · rename_i b r' e1
      split at h
      · rename_i s hs
        cases h
        cases e1
        simp only [RepL] at q
        obtain ⟨v, t, rfl, r1, r2⟩ := q
        simp only [RepV] at r1
        subst r1
        rw [List.map_cons, bools_rep hs r2]
      · cases h
    · cases h
theorem c_any (hc : X.calm = true) : CallR X (.builtin "any") (rP X .any1 m) := by
  refine fun1 (cr_any hc) (fun ds U d U' e => ?_) fun Φ Z β U x d U' v H Q R r e dn => ?_
  · unfold prim at e
    split at e <;> first | exact ⟨_, rfl⟩ | simp_all
  · rw [prim] at e
    split at e
    · rename_i xs hq
      split at e
      · rename_i bs hb
        obtain ⟨rfl, rfl⟩ := ok_inj e
        obtain ⟨p, vs, rfl, sq, q⟩ := R.list hq r
        rw [bools_rep hb q] at sq
        exact ⟨p, bs, rfl, sq, dn.bl R⟩
      · cases e
    · cases e
theorem c_all (hc : X.calm = true) : CallR X (.builtin "all") (rP X .all1 m) := by
  refine fun1 (cr_all hc) (fun ds U d U' e => ?_) fun Φ Z β U x d U' v H Q R r e dn => ?_
  · unfold prim at e
    split at e <;> first | exact ⟨_, rfl⟩ | simp_all
  · rw [prim] at e
    split at e
    · rename_i xs hq
      split at e
      · rename_i bs hb
        obtain ⟨rfl, rfl⟩ := ok_inj e
        obtain ⟨p, vs, rfl, sq, q⟩ := R.list hq r
        rw [bools_rep hb q] at sq
        exact ⟨p, bs, rfl, sq, dn.bl R⟩
      · cases e
    · cases e
theorem texts_rep {P : Program} {w : World} {K : PySem.W.Frag} {Z : Hp} {β : List Addr} : ∀ {xs : List D} {ts : List Tx} {vs : List V}, texts xs = some ts → RepL P w K Z β xs vs → vs = (ts.map fun t => (⟨t.toArray⟩ : Str)).map V.str
  | [], ts, vs, h, q => by
    cases h
    simp only [RepL] at q
    subst q
    rfl
  | x :: r, ts, vs, h, q => by
    unfold texts at h
    split at h
    · rename_i e0
      cases e0
    · rename_i b r' e1
      split at h
      · rename_i s hs
        cases h
        cases e1
        simp only [RepL] at q
        obtain ⟨v, t, rfl, r1, r2⟩ := q
        simp only [RepV] at r1
        subst r1
        rw [List.map_cons, List.map_cons, texts_rep hs r2]
      · cases h
    · cases h
theorem joinL_eq (sep : Tx) : ∀ ts : List Tx, TL.joinL sep ts = joinT sep ts
  | [] => rfl
  | [x] => rfl
  | x :: y :: r => by
    show x ++ (sep ++ TL.joinL sep (y :: r)) = x ++ (sep ++ joinT sep (y :: r))
    rw [joinL_eq sep (y :: r)]
theorem m_join : MtR X "str.join" (rM X .join m) := by
  refine MtR.imp mt_join ?_
  rintro v vs H Q ⟨Φ, Z, β, U, a, ds, d', U', R, ra, q, e, dn⟩
  have sh : ∃ x d, a = .str x ∧ ds = [d] := by
    unfold prim at e
    split at e <;> first
      | (rename_i x d; exact ⟨x, d, by simp_all, by simp_all⟩)
      | simp_all
  obtain ⟨x, d, rfl, rfl⟩ := sh
  rw [prim] at e
  split at e
  · rename_i xs hq
    split at e
    · rename_i ts ht
      split at e
      · rename_i hz
        obtain ⟨rfl, rfl⟩ := ok_inj e
        obtain ⟨u, rfl, ru⟩ := one_rep q
        obtain ⟨p, ws, rfl, sq, q2⟩ := R.seq hq ru
        rw [texts_rep ht q2] at sq
        simp only [RepV] at ra
        subst ra
        refine ⟨_, p, _, rfl, rfl, sq, ?_, ?_⟩
        · rw [List.map_map, List.length_map, str_len]
          have e2 : ((fun s : Str => s.length) ∘ fun t : Tx => (⟨t.toArray⟩ : Str)) = fun t => t.length := by
            funext t
            exact str_len t
          have e3 : (ts.map ((fun x : Str => x.length) ∘ fun t : Tx => (⟨t.toArray⟩ : Str))) = ts.map (·.length) := by rw [e2]
          rw [e3]
          exact hz
        · have e4 : Txt.join ⟨x.toArray⟩ (ts.map fun t => (⟨t.toArray⟩ : Str)) = ⟨(joinT x ts).toArray⟩ := by
            rw [TL.join_eq]
            refine TL.ext_tl ?_
            rw [TL.tl_join, List.map_map]
            have e5 : (TL.tl ∘ fun t : Tx => (⟨t.toArray⟩ : Str)) = id := by
              funext t
              rfl
            rw [e5, List.map_id, TL.tl_mk, ← joinL_eq]
          rw [e4]
          exact dn.str R
      · cases e
    · cases e
  · cases e
theorem m_reverse : MtR X "list.reverse" (rM X .reverse m) := by
  refine MtM.imp mt_reverse ?_
  rintro v vs H Q ⟨Φ, Z, β, U, a, ds, d', U', R, ra, q, e, dn⟩
  have sh : ∃ n, a = .ref n ∧ ds = [] := by
    unfold prim at e
    split at e <;> first
      | (rename_i n; exact ⟨n, by simp_all, by simp_all⟩)
      | simp_all
  obtain ⟨n, rfl, rfl⟩ := sh
  rw [prim] at e
  split at e
  · rename_i xs hu
    obtain ⟨rfl, rfl⟩ := ok_inj e
    obtain ⟨p, ws, rfl, e1, h1, h2⟩ := mut_at R ra hu
    simp only [RepL] at q
    exact ⟨p, ws, rfl, q, h1, dn.non (mut_done R e1 h2.reverse)⟩
  · cases e
theorem m_clear : MtR X "list.clear" (rM X .clear m) := by
  refine MtM.imp mt_clear ?_
  rintro v vs H Q ⟨Φ, Z, β, U, a, ds, d', U', R, ra, q, e, dn⟩
  have sh : ∃ n, a = .ref n ∧ ds = [] := by
    unfold prim at e
    split at e <;> first
      | (rename_i n; exact ⟨n, by simp_all, by simp_all⟩)
      | simp_all
  obtain ⟨n, rfl, rfl⟩ := sh
  rw [prim] at e
  split at e
  · rename_i xs hu
    obtain ⟨rfl, rfl⟩ := ok_inj e
    obtain ⟨p, ws, rfl, e1, h1, h2⟩ := mut_at R ra hu
    simp only [RepL] at q
    exact ⟨p, ws, rfl, q, h1, dn.non (mut_done R e1 RepL.nil)⟩
  · cases e
end
end VI

/-! VIc13: instances: fields, methods, making. -/
namespace VI
open PySem PySem.Spec PyProof.Rows L2
/-- a method that may be called -/
def MeHyp (P : Program) (w : World) (K : PySem.W.Frag) (mg : Str → Option Value) (base : Heap) (C : Cal) (k : Nat) (c m : String) : Prop :=
  ∃ (Ca g : Addr) (fd : FuncData) (ps : List Str), mg (Str.ofString c) = some (.ref Ca) ∧ Cls K Ca ∧ Meth K Ca (Str.ofString m) g ∧ FnOk P w K mg base (L2.CX P w) k g fd ps (spV P w K mg C (c ++ "." ++ m)) ∧ Binds K fd ps []
/-- a class that may be made -/
def MkHyp (P : Program) (w : World) (K : PySem.W.Frag) (mg : Str → Option Value) (base : Heap) (C : Cal) (k : Nat) (c : String) : Prop :=
  ∃ (Ca g : Addr) (fd : FuncData) (ps : List Str), mg (Str.ofString c) = some (.ref Ca) ∧ ClsF K Ca ∧ Mk K Ca g ∧ FnOk P w K mg base (L2.CX P w) k g fd ps (spV P w K mg C (c ++ ".__init__")) ∧ Binds K fd ps []
section
variable {X : Cx} {C : Cal} {W : WX} {e e1 e2 e3 o : Expr} {a b c : IE} {pos p apos : Pos} {es : List Expr} {as : IEs} {k : Nat} {f m cn : String}
/-- a.f -/
theorem n_fld (hb : noSup e = true) (hf : FLD.contains f = true) (ha : PE X e (xE X C W a)) : PE X (.Attribute e (Str.ofString f) pos) (xE X C W (.fld a f)) := by
  refine (pe_fld ha (attr_noSup hb _ _ _)).imp fun σ H Q ⟨Φ, Z, β, ρ, U, r, S, R, h, o⟩ => ?_
  rw [ev] at h
  refine tE_bnd S R h o.wish fun Z1 β1 H1 d v U1 z1 b1 R1 r1 S1 h1 => ?_
  unfold getFld at h1
  split at h1
  · rename_i n
    split at h1
    · rename_i c fs hu
      split at h1
      · rename_i y hy
        cases h1
        simp only [RepV] at r1
        obtain ⟨a, rfl, e⟩ := r1
        obtain ⟨C', dx, l, ⟨hc, hcl⟩, hH, q⟩ := R1.ref hu e
        obtain ⟨v, hv, rv⟩ := q.lookup hf hy
        exact ⟨a, C', dx, l, v, rfl, hH, hcl.1, hcl.2 f (by simpa using hf), hv, Done.same (o.monoE z1 b1).ok R1 rv⟩
      · cases h1
    · cases h1
  · simp only [RepV] at r1
  · cases h1
/-- a.f = b -/
theorem s_asgF (hf : FLD.contains f = true) (hs : swapsWith e2 (some (.Attribute e1 (Str.ofString f) p)) pos.line X.env = pure false) (ha : PE X e1 (xE X C W a)) (hb : PE X e2 (xE X C W b)) : PS X (.Assign [.Attribute e1 (Str.ofString f) p] e2 pos) (xS X C W (.asgF a f b)) := by
  refine (ps_fld ha hb hs).imp fun E σ H ⟨Φ, Z, β, ρ, U, r, S, R, h, o⟩ => ?_
  rw [exec] at h
  refine tE_bndS S R h o fun Z1 β1 H1 d v U1 z1 b1 R1 r1 S1 h1 o1 => ?_
  refine tE_bndS S1 R1 h1 o1 fun Z2 β2 H2 d2 v2 U2 z2 b2 R2 r2 S2 h2 o2 => ?_
  unfold setFld at h2
  split at h2
  · rename_i n
    split at h2
    · rename_i c fs hu
      split at h2
      · rename_i hl
        cases h2
        simp only [RepV] at r2
        obtain ⟨a, rfl, e⟩ := r2
        obtain ⟨C', dx, l, ⟨hc, hcl⟩, hH, q⟩ := R2.ref hu e
        refine ⟨a, C', dx, l, rfl, hH, hcl.1, hcl.2 f (by simpa using hf), by rw [← q.length]; omega, ?_⟩
        have R3 := R2.write e (u := .ins C' dx (putF (Str.ofString f) v l)) (o := .ins c (putFld f d fs)) ⟨C', dx, _, ⟨hc, hcl⟩, L2.upd_same, q.put hf (RepV.mono z2 b2 r1)⟩
        exact o2 Z2 β2 _ σ (ZLe.refl _) (BLe.refl _) R3 S2
      · cases h2
    · cases h2
  · cases h2
/-! ### methods -/
/-- the tree of a method call -/
theorem mcall_tree {m : Str} {env : Env} (hb : noSup o = true) (hline : (apos.endLine == pos.line) = true) (hall : (backTo pos (starEach es env)).all (fun x => !x.1) = true) (hl : es.length < 20) :
    eval (.Call (.Attribute o m apos) es [] pos) env = (do
      let ov ← eval o env
      standAt apos.atName
      let (f, first) ← holding [ov] (getMethod ov m (do return (← importBound o env).getD true))
      callWith pos f first (backTo pos (starEach es env)) (backToKw pos (keywordEach [] env))) := by
  refine mcall_of (attr_noSup hb m env _) fun ov => ?_
  have form : methodCallForm (es.length + ([] : List Keyword).length) (backTo pos (starEach es env)) (backToKw pos (keywordEach [] env)) = true := by
    unfold methodCallForm
    rw [hall]
    have e2 : (backToKw pos (keywordEach [] env)) = [] := rfl
    rw [e2]
    simp only [Bool.true_and, List.all_nil, decide_eq_true_eq, List.length_nil, List.isEmpty_nil, if_true]
    omega
  unfold methodCall
  rw [form]
  unfold calleeOf methodCallPos
  simp only [if_true, Bool.not_true, Bool.false_or, hline, pure_bind]
/-- the receiver, its method, then the rest -/
theorem me_recv {fz : Bool} {pins : List (Addr × Obj)} {s : Shared} {σ : L2.St} {H : Hp} {Q : VK} (F : MeHyp X.prog X.w X.K X.mg X.base C k cn m) (hno : (FLD.map Str.ofString).contains (Str.ofString m) = false) (q : xE X C W (.meth fz cn m a as) σ H Q) :
    ∃ (Ca g : Addr), Cls X.K Ca ∧ Meth X.K Ca (Str.ofString m) g ∧ (∃ fd ps, FnOk X.prog X.w X.K X.mg X.base (L2.CX X.prog X.w) k g fd ps (spV X.prog X.w X.K X.mg C (cn ++ "." ++ m)) ∧ Binds X.K fd ps []) ∧
    xE X C W a σ H (fun x H1 => ∃ a0 dx fs, x = .ref a0 ∧ H1 a0 = some (.ins Ca dx fs) ∧ fs.lookup (Str.ofString m) = none ∧ xA X C W as σ H1 (fun vs H2 => spV X.prog X.w X.K X.mg C (cn ++ "." ++ m) (.ref a0 :: vs) H2 Q (WE W σ))) := by
  obtain ⟨Ca, g, fd, ps, hm, hc, hmt, F, hbd⟩ := F
  obtain ⟨Φ, Z, β, ρ, U, r, S, R, h, oo⟩ := q
  rw [ev] at h
  refine ⟨Ca, g, hc, hmt, ⟨fd, ps, F, hbd⟩, ?_⟩
  refine tE_bnd S R h oo.wish fun Z1 β1 H1 d v U1 z1 b1 R1 r1 S1 h1 => ?_
  split at h1
  · rename_i n
    split at h1
    · rename_i c' fs hu
      split at h1
      · rename_i hcc
        subst hcc
        have r1' := r1
        simp only [RepV] at r1
        obtain ⟨a0, rfl, e⟩ := r1
        obtain ⟨C', dx, l, ⟨hc', hcl⟩, hH, q⟩ := R1.ref hu e
        rw [hm] at hc'
        cases hc'
        refine ⟨a0, dx, l, rfl, hH, q.none hno, ?_⟩
        have o1 := oo.monoE z1 b1
        refine tA_bnd S1 R1 h1 o1.wish fun Z2 β2 H2 ds vs U2 z2 b2 R2 r2 S2 h2 => ?_
        exact sp_frz R2 (RepL.cons (RepV.mono z2 b2 r1') r2) h2 (o1.monoE z2 b2)
      · cases h1
    · cases h1
  · cases h1
theorem n_methI {fz : Bool} (tk : Takes X W) (hr : Room k X.A) (F : MeHyp X.prog X.w X.K X.mg X.base C k cn m) (hno : (FLD.map Str.ofString).contains (Str.ofString m) = false) (hb : noSup o = true) (hline : (apos.endLine == pos.line) = true) (hl : (e :: es).length < 20) (ho : PE X o (xE X C W a)) (ht : (e :: es).all tame = true)
    (ha : PA X (e :: es) (xA X C W as)) : PE X (.Call (.Attribute o (Str.ofString m) apos) (e :: es) [] pos) (xE X C W (.meth fz cn m a as)) := by
  refine ⟨fun pins s σ H Q I q => ?_⟩
  obtain ⟨Ca, g, hc, hmt, ⟨fd, ps, F, hbd⟩, q⟩ := me_recv (pins := pins) (s := s) F hno q
  have hall : ∀ (es : List Expr), es.all tame = true → (backTo pos (starEach es X.env)).all (fun x => !x.1) = true := fun es h => by
    have := stars_tame h pos X.env
    rw [List.any_eq_false] at this
    rw [List.all_eq_true]
    intro x hx
    simpa using this x hx
  refine PySem.W.methodCall_KW (L2.thn (ho.run pins s σ H _ I q) fun u s1 ⟨x, H1, I1, rx, a0, dx, fs, ex, ea, l, q1⟩ => ?_) (mcall_tree hb hline (hall _ ht) hl)
  subst ex
  obtain rfl : u = Value.ref a0 := rx
  refine getmeth_ok I1 ea hc hmt l ?_
  simp only [List.all_cons, Bool.and_eq_true] at ht
  refine PySem.W.callWith_K (first := [.ref a0]) (h₀ := X.base) I.ok.mod.kin hmt.kp (L2.thn (ha.run pos pins s1 σ H1 _ I1 q1) fun us s2 ⟨vs, H2, I2, r, q2⟩ => ⟨I2.kIn, ?_⟩) (star_tame ht.1 es _) (stars_tame ht.2 pos _)
  exact run_fnS (E := WE W) (us := .ref a0 :: us) (vs := .ref a0 :: vs) F hr hbd (passAt tk σ) I2 (.cons rfl r) q2
theorem n_methI0 {fz : Bool} (tk : Takes X W) (hr : Room k X.A) (F : MeHyp X.prog X.w X.K X.mg X.base C k cn m) (hno : (FLD.map Str.ofString).contains (Str.ofString m) = false) (hb : noSup o = true) (hline : (apos.endLine == pos.line) = true) (ho : PE X o (xE X C W a)) :
    PE X (.Call (.Attribute o (Str.ofString m) apos) [] [] pos) (xE X C W (.meth fz cn m a .nil)) := by
  refine ⟨fun pins s σ H Q I q => ?_⟩
  obtain ⟨Ca, g, hc, hmt, ⟨fd, ps, F, hbd⟩, q⟩ := me_recv (pins := pins) (s := s) F hno q
  refine PySem.W.methodCall_KW (L2.thn (ho.run pins s σ H _ I q) fun u s1 ⟨x, H1, I1, rx, a0, dx, fs, ex, ea, l, q1⟩ => ?_) (mcall_tree hb hline rfl (by simp))
  subst ex
  obtain rfl : u = Value.ref a0 := rx
  refine getmeth_ok I1 ea hc hmt l ?_
  have q2 : spV X.prog X.w X.K X.mg C (cn ++ "." ++ m) [.ref a0] H1 Q (WE W σ) := by
    obtain ⟨Φ, Z, β, ρ, U, r, S, R, h, oo⟩ := q1
    rw [evs] at h
    cases h
    have dn := oo.ok
    exact dn Z β H1 [] (ZLe.refl _) (BLe.refl _) R RepL.nil
  exact PySem.W.callWith_K0 (first := [.ref a0]) I1.kIn hmt.kp (run_fnS (E := WE W) (us := [.ref a0]) (vs := [.ref a0]) F hr hbd (passAt tk σ) I1 (.cons rfl .nil) q2)
/-! ### making -/
theorem run_makeS {CX : CXT} {fA Ca : Addr} {fd : FuncData} {ps : List Str} {sp : Sp} {E : L2.St → XK} {pins : List (Addr × Obj)} {σ : L2.St} {H : Hp} {s : Shared} {Q : VK} {us : List Value} {vs : List V} (M : Mk X.K Ca fA) (F : FnOk X.prog X.w X.K X.mg X.base CX k fA fd ps sp) (hr : Room (k + 1) X.A) (hb : Binds X.K fd ps [])
    (hx : PassesAt CX X σ (E σ)) (I : Inv X pins σ H s) (r : Vals vs us)
    (h : ∀ x dx, H x = none → H dx = none → dx ≠ x → sp (.ref x :: vs) (L2.upd (L2.upd H dx (.own x)) x (.ins Ca dx [])) (fun v H2 => v = .non ∧ Q (.ref x) H2) (E σ)) :
    wpAny (model X.prog X.w) X.A (call (.ref Ca) us) (EP X pins σ Q) X.xe s := by
  have hq := h (s.heap.objs.size + 1) s.heap.objs.size (I.hok.fresh (Nat.le_succ _)) (I.hok.fresh (Nat.le_refl _)) (Nat.ne_of_lt (Nat.lt_succ_self _))
  have I2 := Inv.made (C := Ca) I
  have r2 : Vals (V.ref (s.heap.objs.size + 1) :: vs) (Value.ref (s.heap.objs.size + 1) :: us) := .cons rfl r
  have hl : (Value.ref (s.heap.objs.size + 1) :: us).length = ps.length := by
    have e := r2.length
    rw [F.len _ _ _ _ hq] at e
    exact e.symm
  have b := hb (Shared.mk _ s.gens s.drawn s.toks s.os) (Value.ref (s.heap.objs.size + 1) :: us) I2.kIn (by rw [List.append_nil]; exact hl)
  rw [List.append_nil] at b
  refine wpAny_call (make_map (f := fA) I.kIn M.makes M.init (beq_iff_eq.mp M.fn) (codeAny_mono (F.run _ X.stack _ _ ⟨Value.ref (s.heap.objs.size + 1) :: us, []⟩ (Value.ref (s.heap.objs.size + 1) :: us) _ _ (E σ) (hr.make Ca us [])
    (I2.env0.make Ca us []) b r2 hq) fun r s' hq' => ?_))
  cases r with
  | error e => exact hx pins _ _ e s' I2 hq'
  | ok fl =>
    cases fl with
    | ret u =>
      obtain ⟨v, H', I3, rv, ev, q3⟩ := I2.after hq'
      subst ev
      exact ⟨rv, ⟨V.ref (s.heap.objs.size + 1), H', I3, rfl, q3⟩⟩
    | next => exact False.elim hq'
    | brk => exact False.elim hq'
    | cont => exact False.elim hq'
/-- the promise of __init__, at a new instance -/
theorem sp_make {P : Program} {w : World} {K : PySem.W.Frag} {mg : Str → Option Value} {Φ : List (Addr × HO)} {Z : Hp} {β : List Addr} {U : Store} {H : Hp} {Ca x dx : Addr} {ds : List D} {vs : List V} {Q : VK} {σ : L2.St} {r : VI.R D} (hm : mg (Str.ofString cn) = some (.ref Ca)) (hc : ClsF K Ca)
    (R : Rel P w K mg Φ Z β U H) (q : RepL P w K Z β ds vs) (h : (bnd (C (cn ++ ".__init__") (.ref U.length :: ds) (U ++ [.ins cn []])) fun d U2 => match d with | .non => some (.ok (.ref U.length) U2) | _ => none) = some r) (o : Out P w K mg W Φ Z β σ (fun d U' => Done P w K mg Φ Z β d U' Q) r)
    (hx : H x = none) (hdx : H dx = none) (ne : dx ≠ x) : spV P w K mg C (cn ++ ".__init__") (.ref x :: vs) (L2.upd (L2.upd H dx (.own x)) x (.ins Ca dx [])) (fun v H2 => v = .non ∧ Q (.ref x) H2) (WE W σ) := by
  obtain ⟨R1, zl⟩ := R.froze hdx (.own x)
  have hx1 : (L2.upd H dx (.own x)) x = none := by rw [L2.upd_ne (Ne.symm ne)]; exact hx
  obtain ⟨R2, bl⟩ := R1.push hx1 (u := .ins Ca dx []) (o := .ins cn []) ⟨Ca, dx, [], ⟨hm, hc⟩, L2.upd_same, rfl⟩
  have hr : RepV P w K (L2.upd Z dx (.own x)) (β ++ [x]) (.ref U.length) (.ref x) := by
    simp only [RepV]
    exact ⟨x, rfl, by rw [← R.len]; simp⟩
  cases e : C (cn ++ ".__init__") (.ref U.length :: ds) (U ++ [.ins cn []]) with
  | none => rw [e] at h; cases h
  | some r1 =>
    rw [e] at h
    refine ⟨Φ, _, _, _, _, r1, R2, RepL.cons hr (q.mono zl bl), e, ?_⟩
    cases r1 with
    | ok d U2 =>
      simp only [bnd_ok] at h
      split at h
      · cases h
        intro Z3 β3 H3 v z3 b3 R3 r3
        simp only [RepV] at r3
        exact ⟨r3, o Z3 β3 H3 (.ref x) (zl.trans z3) (bl.trans b3) R3 (RepV.mono z3 b3 hr)⟩
      · cases h
    | ex y U2 =>
      cases h
      exact DoneX.mono o zl bl
theorem n_make (tk : Takes X W) (hr : Room (k + 1) X.A) (hg : Gl X (Str.ofString cn)) (F : MkHyp X.prog X.w X.K X.mg X.base C k cn) (hdb : (Str.ofString cn == ("__debug__" : Str)) = false) (ht : (e :: es).all tame = true)
    (ha : PA X (e :: es) (xA X C W as)) : PE X (.Call (.Name (Str.ofString cn) p) (e :: es) [] pos) (xE X C W (.make cn as)) := by
  obtain ⟨Ca, g, fd, ps, hm, hc, M, F, hbd⟩ := F
  refine ⟨fun pins s σ H Q I ⟨Φ, Z, β, ρ, U, r, S, R, h, oo⟩ => ?_⟩
  rw [ev] at h
  simp only [List.all_cons, Bool.and_eq_true] at ht
  refine wpAny_Call_Name_kw (ld_glob I hg hm ?_ hdb)
  refine PySem.W.callWith_K (h₀ := X.base) I.ok.mod.kin M.kp (L2.thn (ha.run pos pins s σ H (fun vs H1 => ∀ x dx, H1 x = none → H1 dx = none → dx ≠ x → spV X.prog X.w X.K X.mg C (cn ++ ".__init__") (.ref x :: vs) (L2.upd (L2.upd H1 dx (.own x)) x (.ins Ca dx [])) (fun v H2 => v = .non ∧ Q (.ref x) H2) (WE W σ)) I ?_) fun us s1 ⟨vs, H1, I1, r, q⟩ => ⟨I1.kIn, ?_⟩) (star_tame ht.1 es _) (stars_tame ht.2 pos _)
  · refine tA_bnd S R h oo.wish fun Z2 β2 H2 ds vs U2 z2 b2 R2 r2 S2 h2 => ?_
    exact fun x dx hx hdx ne => sp_make hm hc R2 r2 h2 (oo.monoE z2 b2) hx hdx ne
  · exact run_makeS (E := WE W) M F hr hbd (passAt tk σ) I1 r q
theorem n_make0 (tk : Takes X W) (hr : Room (k + 1) X.A) (hg : Gl X (Str.ofString cn)) (F : MkHyp X.prog X.w X.K X.mg X.base C k cn) (hdb : (Str.ofString cn == ("__debug__" : Str)) = false) :
    PE X (.Call (.Name (Str.ofString cn) p) [] [] pos) (xE X C W (.make cn .nil)) := by
  obtain ⟨Ca, g, fd, ps, hm, hc, M, F, hbd⟩ := F
  refine ⟨fun pins s σ H Q I ⟨Φ, Z, β, ρ, U, r, S, R, h, oo⟩ => ?_⟩
  rw [ev, evs, bnd_ok] at h
  refine wpAny_Call_Name_kw (ld_glob I hg hm ?_ hdb)
  exact PySem.W.callWith_K0 I.kIn M.kp (run_makeS (E := WE W) (us := []) M F hr hbd (passAt tk σ) I .nil fun x dx hx hdx ne => sp_make hm hc R RepL.nil h oo hx hdx ne)
end
end VI

/-! VIc14: {k: v} with a tuple as key, d.pop(k), comprehensions over a dict's keys. -/
namespace VI
open PySem PySem.Spec PyProof.Rows L2
section
variable {X : Cx} {C : Cal} {W : WX} {e e1 e2 : Expr} {a b : IE} {pos : Pos} {m : Bool}
theorem doneX_put {P : Program} {w : World} {K : PySem.W.Frag} {mg : Str → Option Value} {Φ : List (Addr × HO)} {Z : Hp} {β : List Addr} {x : Ex} {U' : Store} {E : XK} {q : Addr × HO} (h : DoneX P w K mg Φ Z β x U' E) : DoneX P w K mg (q :: Φ) Z β x U' E :=
  fun Z' β' H' C dx v z b R => h Z' β' H' C dx v z b R.drop
/-- a dict display with one tuple as key -/
theorem n_done (hu : X.A.units + 65 < cLine) (ha : PE X e1 (xE X C W a)) (hb : PE X e2 (xE X C W b)) : PE X (.Dict [some e1] [e2] pos) (xE X C W (.done m 1 a b)) := by
  refine ⟨fun pins s σ H Q I ⟨Φ, Z, β, ρ, U, r, S, R, h, o⟩ => ?_⟩
  rw [ev] at h
  have hp : H s.heap.objs.size = none := I.hok.fresh (Nat.le_refl _)
  have hΦ : ∀ q ∈ Φ, q.1 ≠ s.heap.objs.size := fun q hq e => by
    have := (R.ext q hq).1
    rw [e, hp] at this
    cases this
  have new : ObjOk X.prog X.w (L2.upd H s.heap.objs.size (dN X.prog X.w s.heap.objs.size [])) (s.heap.push { cls := .type "dict", data := .dict #[] }) s.heap.objs.size (dN X.prog X.w s.heap.objs.size []) :=
    dn_ok (beq_eq_false_iff_ne.mpr (Ne.symm (Nat.ne_of_lt I.big))) (Nat.zero_le _) (Heap.DictOfH.new s.heap)
  have I1 := I.laid (a := s.heap.objs.size) (o := dN X.prog X.w s.heap.objs.size []) (t' := s.toks) (fun _ _ q => Heap.get?_push_of_some _ q) (Nat.le_refl _) new
  have R1 := R.aside hp (dN X.prog X.w s.heap.objs.size [])
  have room : (nestedKind X.prog X.w).room X.A := by
    show X.A.units + 8 < cLine
    omega
  rw [arm_eval_Dict]
  have shape : (evalEachOpt [some e1] X.env).zip ((evalEach [e2] X.env).map fun v => do let x ← v; standAt pos; pure x) = (pairTrees [some e1] [e2] X.env pos).map fun p => (some p.1, p.2) := rfl
  rw [shape, dictDisplay_pairs _ (by simp [pairTrees]) (by simp [pairTrees])]
  refine wpAny_bind (wpAny_standAt (wpAny_bind (wpAny_subDictH (knd := nestedKind X.prog X.w) (Q := fun d s' => wpAny (model X.prog X.w) X.A (pure (Value.ref d)) (EP X pins σ Q) X.xe s') room (by simp [pairTrees]) ?_)))
  refine L2.thn ((pps_cons (X := X) (pos := pos) ha hb pps_nil).run pins _ σ _ (fun ps H2 => ∃ Z2 β2 U2 d1 d2 v1 v2 r, ps = [(v1, v2)] ∧ Rel X.prog X.w X.K X.mg ((s.heap.objs.size, dN X.prog X.w s.heap.objs.size []) :: Φ) Z2 β2 U2 H2 ∧ RepV X.prog X.w X.K Z2 β2 d1 v1 ∧ RepV X.prog X.w X.K Z2 β2 d2 v2 ∧
    (if keyFor 1 d1 then mkD m 1 [(d1, d2)] U2 else none) = some r ∧ Out X.prog X.w X.K X.mg W Φ Z2 β2 σ (fun d U' => Done X.prog X.w X.K X.mg Φ Z2 β2 d U' Q) r) I1 ?_) fun ws s2 ⟨ps, H2, I2, rel, Z2, β2, U2, d1, d2, v1, v2, r2, eps, R2, q1, q2, hk, o2⟩ => ?_
  · refine tE_bnd (S) R1 h (fun x U' e => doneX_put (o.wish x U' e)) fun Z1 β1 H1 d v U1 z1 b1 R3 r1 S1 h1 => ?_
    refine tE_bnd S1 R3 h1 (fun x U' e => doneX_put (DoneX.mono (o.wish x U' e) z1 b1)) fun Z3 β3 H3 d3 v3 U3 z3 b3 R4 r3 S3 h3 => ?_
    exact ⟨Z3, β3, U3, d, d3, v, v3, r, rfl, R4, RepV.mono z3 b3 r1, r3, h3, o.monoE (z1.trans z3) (b1.trans b3)⟩
  · subst eps
    split at hk
    · rename_i hk1
      obtain ⟨b0, rfl⟩ := key1_ref hk1 q1
      cases rel with
      | @cons _ w0 _ wr hw ht =>
        cases ht
        obtain ⟨w1, w2⟩ := w0
        obtain ⟨hw1, hw2⟩ := hw
        obtain rfl : w1 = Value.ref b0 := hw1
        obtain ⟨he, hz, hn⟩ := R2.ext (s.heap.objs.size, dN X.prog X.w s.heap.objs.size []) (by simp)
        obtain ⟨hs0, _, dd⟩ := dn_heap (kvs := []) R2 I2 (.inl he) List.nodup_nil (by simp only [RepT])
        refine ⟨[(nk d1, b0, w2)], ⟨rfl, rfl, key_is R2 I2 hk1 q1, trivial⟩, dd, fun h' tk dd' sb => wpAny_pure ?_⟩
        obtain ⟨ob, _, _, hq, _⟩ := id dd'
        have dd2 : h'.DictOfH (nestedKind X.prog X.w) s.heap.objs.size [(nk d1, b0, w2)] := dd'
        have hz1 : ([(nk d1, b0, w2)] : List (NestedKey × Addr × Value)).length ≤ sizeLine := by show 1 ≤ sizeLine; decide
        have I3 := d_write (t' := tk) I2 (a := s.heap.objs.size) (by rw [he]; exact True.intro) sb ⟨ob, hq⟩ (dn_ok hs0 hz1 dd2)
        have R3 := R2.aside2 hΦ (dN X.prog X.w s.heap.objs.size [(nk d1, b0, w2)])
        have rt : RepT X.prog X.w X.K Z2 β2 [(d1, d2)] [(nk d1, b0, w2)] := by
          simp only [RepT]
          exact ⟨b0, w2, v2, [], rfl, hk1, q1, hw2, q2, rfl⟩
        refine ⟨.ref s.heap.objs.size, _, I3, rfl, ?_⟩
        unfold mkD at hk
        split at hk
        · cases hk
          obtain ⟨R4, b4⟩ := R3.adopt hΦ (o := .dct 1 [(d1, d2)]) (.inr ⟨rfl, _, L2.upd_same, by simp, RepT.mono (ZLe.refl _) ⟨[s.heap.objs.size], rfl⟩ rt⟩)
          refine o2.ok Z2 _ _ (.ref _) (ZLe.refl _) b4 R4 ?_
          simp only [RepV]
          exact ⟨_, rfl, by rw [← R3.len]; simp⟩
        · cases hk
          obtain ⟨R4, z4⟩ := R3.settle hΦ
          refine o2.ok _ β2 _ (.ref _) z4 (BLe.refl _) R4 ?_
          simp only [RepV]
          exact ⟨_, rfl, .inr ⟨trivial, _, .inl L2.upd_same, by simp, RepT.mono z4 (BLe.refl _) rt⟩⟩
    · cases hk
end
/-! ### d.pop(k) -/
section
variable {X : Cx} {m : Bool}
theorem m_popD (hu : X.A.units + 65 < cLine) : MtR X "dict.pop" (rM X .popD m) := by
  intro pins s σ H x vs v us Q I rv ru ⟨Φ, Z, β, U, a, ds, d', U', R, ra, q, e, dn⟩
  have sh : ∃ n k, a = .ref n ∧ ds = [k] := by
    unfold prim at e
    split at e <;> first
      | (rename_i n k; exact ⟨n, k, by simp_all, by simp_all⟩)
      | simp_all
  obtain ⟨n, k, rfl, rfl⟩ := sh
  rw [prim] at e
  split at e
  · rename_i t kvs hU
    split at e
    · rename_i hk
      split at e
      · rename_i y hy
        obtain ⟨rfl, rfl⟩ := ok_inj e
        obtain ⟨y', rfl, rk⟩ := one_rep q
        obtain ⟨u, rfl, rx⟩ := vals1 ru
        exact vs_pop (by omega) R I hU hk hy ra rk rv rx fun H' s' z z' I' R' rz r => ⟨z, H', I', rz, dn Z β H' z (ZLe.refl _) (BLe.refl _) R' r⟩
      · cases e
    · cases e
  · cases e
end
/-! ### the same, but for a lock -/
def Sim (Z Z' : Hp) : Prop := ∀ a o, Z a = some o → Z' a = some o ∨ ∃ φ od, (o = HO.ext φ ∧ Z' a = some (.frz od (.ext φ))) ∨ (o = HO.frz od (.ext φ) ∧ Z' a = some (.ext φ))
theorem Sim.rd_lst {Z Z' : Hp} (h : Sim Z Z') {a : Addr} {xs : List V} (r : Rd Z a (.lst xs)) : Rd Z' a (.lst xs) := by
  rcases r with r | ⟨o, r⟩
  · rcases h a _ r with q | ⟨φ, od, ⟨q, _⟩ | ⟨q, _⟩⟩
    · exact .inl q
    · cases q
    · cases q
  · rcases h a _ r with q | ⟨φ, od, ⟨q, _⟩ | ⟨q, _⟩⟩
    · exact .inr ⟨o, q⟩
    · cases q
    · cases q
theorem Sim.rd_tup {Z Z' : Hp} (h : Sim Z Z') {a : Addr} {xs : List V} (r : Rd Z a (.tup xs)) : Rd Z' a (.tup xs) := by
  rcases r with r | ⟨o, r⟩
  · rcases h a _ r with q | ⟨φ, od, ⟨q, _⟩ | ⟨q, _⟩⟩
    · exact .inl q
    · cases q
    · cases q
  · rcases h a _ r with q | ⟨φ, od, ⟨q, _⟩ | ⟨q, _⟩⟩
    · exact .inr ⟨o, q⟩
    · cases q
    · cases q
theorem Sim.dk {Z Z' : Hp} (h : Sim Z Z') {a : Addr} {l : List (Key × V)} (r : Z a = some (.dK l)) : Z' a = some (.dK l) := by
  rcases h a _ r with q | ⟨φ, od, ⟨q, _⟩ | ⟨q, _⟩⟩
  · exact q
  · cases q
  · cases q
theorem Sim.rd_dn {Z Z' : Hp} {P : Program} {w : World} (h : Sim Z Z') {a : Addr} {l : List (NestedKey × Addr × Value)} (r : Rd Z a (dN P w a l)) : Rd Z' a (dN P w a l) := by
  rcases r with r | ⟨o, r⟩
  · rcases h a _ r with q | ⟨φ, od, ⟨q, q2⟩ | ⟨q, _⟩⟩
    · exact .inl q
    · rw [← q] at q2
      exact .inr ⟨od, q2⟩
    · cases q
  · rcases h a _ r with q | ⟨φ, od, ⟨q, _⟩ | ⟨q, q2⟩⟩
    · exact .inr ⟨o, q⟩
    · cases q
    · injection q with q3 q4
      rw [← q4] at q2
      exact .inl q2
section
variable {P : Program} {w : World} {K : PySem.W.Frag} {mg : Str → Option Value} {Φ : List (Addr × HO)} {Z Z' : Hp} {β β' : List Addr} {U : Store} {H : Hp} {ρ : Rho} {σ : L2.St}
mutual
theorem RepV.sim (z : Sim Z Z') : ∀ {d : D} {v : V}, RepV P w K Z β d v → RepV P w K Z' β d v
  | .non, v, h => by simpa only [RepV] using h
  | .bl _, v, h => by simpa only [RepV] using h
  | .int _, v, h => by simpa only [RepV] using h
  | .str _, v, h => by simpa only [RepV] using h
  | .tup xs, v, h => by
    simp only [RepV] at h ⊢
    obtain ⟨a, vs, e, s, r⟩ := h
    refine ⟨a, vs, e, ?_, RepL.sim z r⟩
    rcases s with s | s
    · exact .inl (z.rd_tup s)
    · exact .inr s
  | .lst xs, v, h => by
    simp only [RepV] at h ⊢
    obtain ⟨a, vs, e, s, r⟩ := h
    refine ⟨a, vs, e, ?_, RepL.sim z r⟩
    rcases s with s | s
    · exact .inl (z.rd_lst s)
    · exact .inr s
  | .dct t kvs, v, h => by
    simp only [RepV] at h ⊢
    obtain ⟨a, e, h⟩ := h
    refine ⟨a, e, ?_⟩
    rcases h with ⟨hn, l, h1, h2⟩ | ⟨hn, l, h1, h0, h2⟩
    · exact .inl ⟨hn, l, z.dk h1, RepK.sim z h2⟩
    · exact .inr ⟨hn, l, z.rd_dn h1, h0, RepT.sim z h2⟩
  | .ref n, v, h => by simpa only [RepV] using h
  | .exn _ _, v, h => by simp only [RepV] at h
theorem RepL.sim (z : Sim Z Z') : ∀ {ds : List D} {vs : List V}, RepL P w K Z β ds vs → RepL P w K Z' β ds vs
  | [], vs, h => by simpa only [RepL] using h
  | x :: r, vs, h => by
    simp only [RepL] at h ⊢
    obtain ⟨v, s, e, h1, h2⟩ := h
    exact ⟨v, s, e, RepV.sim z h1, RepL.sim z h2⟩
theorem RepK.sim (z : Sim Z Z') : ∀ {ds : List (D × D)} {vs : List (Key × V)}, RepK P w K Z β ds vs → RepK P w K Z' β ds vs
  | [], vs, h => by simpa only [RepK] using h
  | (k, x) :: r, vs, h => by
    simp only [RepK] at h ⊢
    obtain ⟨kk, v, s, e, h0, h1, h2⟩ := h
    exact ⟨kk, v, s, e, h0, RepV.sim z h1, RepK.sim z h2⟩
theorem RepT.sim (z : Sim Z Z') : ∀ {ds : List (D × D)} {vs : List (NestedKey × Addr × Value)}, RepT P w K Z β ds vs → RepT P w K Z' β ds vs
  | [], vs, h => by simpa only [RepT] using h
  | (k, x) :: r, vs, h => by
    simp only [RepT] at h ⊢
    obtain ⟨c, u, v, s, e, h0, hk, hr, h1, h2⟩ := h
    exact ⟨c, u, v, s, e, h0, RepV.sim z hk, hr, RepV.sim z h1, RepT.sim z h2⟩
end
theorem RepF.sim (z : Sim Z Z') : ∀ {fs : List (String × D)} {l : List (Str × V)}, RepF P w K Z β fs l → RepF P w K Z' β fs l
  | [], l, h => h
  | (f, x) :: r, l, h => by
    obtain ⟨hf, v, s, e, h1, h2⟩ := h
    exact ⟨hf, v, s, e, RepV.sim z h1, RepF.sim z h2⟩
theorem RepO.sim (z : Sim Z Z') {H' : Hp} {o : MO} {a : Addr} (h : RepO P w K mg Z β H o a) (k : H' a = H a) : RepO P w K mg Z' β H' o a := by
  cases o with
  | lst xs =>
    obtain ⟨vs, e, r⟩ := h
    exact ⟨vs, k.trans e, RepL.sim z r⟩
  | dct t kvs =>
    rcases h with ⟨hn, l, e, r⟩ | ⟨hn, l, e, hd, r⟩
    · exact .inl ⟨hn, l, k.trans e, RepK.sim z r⟩
    · exact .inr ⟨hn, l, k.trans e, hd, RepT.sim z r⟩
  | ins c fs =>
    obtain ⟨C, dx, l, hc, e, r⟩ := h
    exact ⟨C, dx, l, hc, k.trans e, RepF.sim z r⟩
theorem RepS.sim (z : Sim Z Z') (h : RepS P w K Z β ρ σ) : RepS P w K Z' β ρ σ := ⟨h.1, fun i d e => let ⟨v, e1, r⟩ := h.2 i d e; ⟨v, e1, RepV.sim z r⟩⟩
/-- an object of the frozen part is taken otherwise -/
theorem Rel.retype (R : Rel P w K mg Φ Z β U H) {a : Addr} {o₀ o : HO} (e : Z a = some o₀) (z : Sim Z (L2.upd Z a o)) : Rel P w K mg Φ (L2.upd Z a o) β U (L2.upd H a o) := by
  have hb : a ∉ β := fun h => by rw [R.sep a h] at e; cases e
  refine ⟨fun b u q => ?_, R.len, R.nd, fun b h => ?_, fun n m b e1 e2 => ?_, fun q hq => ?_⟩
  · by_cases h : b = a
    · subst h
      rw [upd_same] at q ⊢
      exact q
    · rw [upd_ne h] at q ⊢
      exact R.zle b u q
  · rw [upd_ne (fun q => hb (by rw [← q]; exact h))]
    exact R.sep b h
  · have hn : b ≠ a := fun q => hb (by rw [← q]; exact List.mem_of_getElem? e2)
    exact (R.obj n m b e1 e2).sim z (upd_ne hn)
  · obtain ⟨q1, q2, q3⟩ := R.ext q hq
    have hn : q.1 ≠ a := fun h => by rw [h, e] at q2; cases q2
    rw [upd_ne hn, upd_ne hn]
    exact ⟨q1, q2, q3⟩
theorem sim_lock {a : Addr} {φ : Heap → Prop} {od : Obj} (e : Z a = some (.ext φ)) : Sim Z (L2.upd Z a (.frz od (.ext φ))) := fun b o h => by
  by_cases q : b = a
  · subst q
    rw [e] at h
    cases h
    exact .inr ⟨φ, od, .inl ⟨rfl, upd_same⟩⟩
  · exact .inl (by rw [upd_ne q]; exact h)
theorem sim_unlock {a : Addr} {φ : Heap → Prop} {od : Obj} (e : Z a = some (.frz od (.ext φ))) : Sim Z (L2.upd Z a (.ext φ)) := fun b o h => by
  by_cases q : b = a
  · subst q
    rw [e] at h
    cases h
    exact .inr ⟨φ, od, .inr ⟨rfl, upd_same⟩⟩
  · exact .inl (by rw [upd_ne q]; exact h)
end
/-! ### a walk over the keys of a locked dict -/
def ItkN (P : Program) (w : World) (d : Addr) (o : Obj) (l : List (NestedKey × Addr × Value)) : L2.It :=
  ⟨fun i H => H d = some (.frz o (dN P w d l)) ∧ i < l.length, fun i H x H' => H' = H ∧ ∃ k b u, l[i]? = some (k, b, u) ∧ x = .ref b, fun i H => H d = some (.frz o (dN P w d l)) ∧ l.length ≤ i⟩
section
variable {X : Cx} {pins : List (Addr × Obj)} {σ : L2.St} {H : Hp} {s : Shared}
theorem frzN {d : Addr} {o : Obj} {l : List (NestedKey × Addr × Value)} (I : Inv X pins σ H s) (h : H d = some (.frz o (dN X.prog X.w d l))) :
    (d == sysModules) = false ∧ s.heap.get? d = some o ∧ o.ExactDict ∧ ∃ es ep, o.data = .dict es ep ∧ es.size = l.length ∧ ∀ (i : Nat) k b u, l[i]? = some (k, b, u) → ∃ en : DictEntry, es[i]? = some en ∧ en.key = .ref b := by
  obtain ⟨ho, ⟨h1, h2, o', es, ep, ho', hx, hd, he⟩, _, _⟩ := I.hok d _ h
  rw [ho] at ho'
  cases ho'
  refine ⟨h1, ho, hx, es, ep, hd, ?_, fun i k b u q => ?_⟩
  · have := congrArg List.length he
    simpa using this
  · have e : es.toList[i]? = some (entryOfKey (nestedKind X.prog X.w) (k, b, u)) := by
      rw [he, List.getElem?_map, q]
      rfl
    exact ⟨_, by simpa using e, rfl⟩
end
section
variable {P : Program} {w : World} {K : PySem.W.Frag} {tg : Expr} {d : Addr} {o : Obj} {es : Array DictEntry} {ep : Nat}
theorem turn_keysN {l : List (NestedKey × Addr × Value)} (it : Addr) (hod : o.data = .dict es ep) : Turn P w K tg (ItkN P w d o l) [it] it (fun i h => h.IsKeyIter it d i l.length ep) where
  mem := by simp
  obj := fun i h st b hb => by
    have e : b = it := by simpa using hb
    subst e
    obtain ⟨oi, e, c, dd⟩ := st
    exact ⟨oi, e, fun v z => by rw [dd] at z; cases z⟩
  keep := fun i h h' st k => st.at fun oi e => k it (by simp) oi e
  item := by
    intro X hP hw hK hc i pins s σ H E I hf st hg
    subst hP hw hK
    obtain ⟨hd, hi⟩ := hg
    obtain ⟨f0, f1, f2, f3, f4, f5⟩ := hf it (by simp)
    obtain ⟨hs, hgd, hx, es', ep', hdt, hsz, ent⟩ := frzN I hd
    obtain ⟨rfl, rfl⟩ := dict_ep hod hdt
    obtain ⟨⟨k, b, u⟩, hkv⟩ : ∃ p, l[i]? = some p := ⟨l[i], List.getElem?_eq_getElem hi⟩
    obtain ⟨en, hen, hkey⟩ := ent i k b u hkv
    refine next_key_item st hgd hdt hsz hen fun h' st' sb => ?_
    have I1 : Inv X pins σ H { s with heap := h' } := I.turned (t' := s.toks) (fun b ob hb e => (sb.2 b hb).trans e) f0 f1 f3 f4 f5
    obtain ⟨oi, e, c, dd⟩ := id st'
    exact ⟨en.key, rfl, go_of (s := { s with heap := h' }) e c dd (by decide) ⟨.ref b, H, I1, hkey, ⟨rfl, k, b, u, hkv, rfl⟩, st', fun b hb => (hf b hb).1⟩⟩
  done := by
    intro X hP hw hK hc i pins s σ H E I hf st hg
    subst hP hw hK
    obtain ⟨hd, hi⟩ := hg
    obtain ⟨f0, f1, f2, f3, f4, f5⟩ := hf it (by simp)
    obtain ⟨hs, hgd, hx, es', ep', hdt, hsz, ent⟩ := frzN I hd
    obtain ⟨rfl, rfl⟩ := dict_ep hod hdt
    exact next_key_end (I.ok.hd hc) st hgd hdt hsz hi fun h' eb => ⟨rfl, I.turned (t' := s.toks) (fun b ob hb e => eb b ob hb e) f0 f1 f3 f4 f5⟩
  self := fun A i s Q E st h => wpAny_pyIter_keyiter st h
end
section
variable {X : Cx} {C : Cal} {W : WX} {tg : Expr} {i : Nat} {x : Str} {pos : Pos}
theorem repT_get {P : Program} {w : World} {K : PySem.W.Frag} {Z : Hp} {β : List Addr} : ∀ {kvs : List (D × D)} {l : List (NestedKey × Addr × Value)} {i : Nat} {d : D}, RepT P w K Z β kvs l → (kvs.map (·.1))[i]? = some d → ∃ k b u, l[i]? = some (k, b, u) ∧ RepV P w K Z β d (.ref b)
  | [], l, i, d, h, e => by simp at e
  | (k, y) :: r, l, 0, d, h, e => by
    simp only [RepT] at h
    obtain ⟨b, u, v, s, rfl, _, hk, _, _, _⟩ := h
    simp at e
    subst e
    exact ⟨_, b, u, rfl, hk⟩
  | (k, y) :: r, l, i + 1, d, h, e => by
    simp only [RepT] at h
    obtain ⟨b, u, v, s, rfl, _, _, _, _, h2⟩ := h
    simp only [List.map_cons, List.getElem?_cons_succ] at e ⊢
    exact repT_get h2 e
theorem walk_keys {P : Program} {w : World} {K : PySem.W.Frag} {mg : Str → Option Value} {Z : Hp} {β : List Addr} {a : Addr} {o : Obj} {kvs : List (D × D)} {l : List (NestedKey × Addr × Value)} (e : Z a = some (.frz o (dN P w a l))) (r : RepT P w K Z β kvs l) : WalkV P w K mg Z β (ItkN P w a o l) (fixS (kvs.map (·.1))) := by
  have hl := repT_len r
  refine ⟨fun i g e1 Φ Z' β' U H x z b R hg => ?_, fun Φ Z' β' U H z b R hf => ?_⟩
  · obtain ⟨d, e2, e3⟩ := fix_get e1
    rw [e3] at hg
    cases hg
    obtain ⟨k, b0, u, e4, r1⟩ := repT_get r e2
    refine ⟨⟨R.zle _ _ (z _ _ e), (List.getElem?_eq_some_iff.mp e4).1⟩, fun v' H' ⟨y1, k', b', u', y2, y3⟩ => ?_⟩
    subst y1 y3
    rw [e4] at y2
    cases y2
    exact ⟨Z', ZLe.refl _, R, RepV.mono z b r1⟩
  · exact ⟨R.zle _ _ (z _ _ e), by simp [fixS, hl]⟩
/-- the dict in the slot i is locked -/
def Lockd (X : Cx) (i : Nat) (σ : L2.St) (H : Hp) : Prop := ∃ a l o, σ[i]? = some (some (V.ref a)) ∧ H a = some (.frz o (dN X.prog X.w a l))
theorem i_keys (hN : X.N[i]? = some x) (hv : Vis X.env.scope x) (hd : (x == ("__debug__" : Str)) = false) (hcd : (x == ("__classdict__" : Str)) = false) : PI X tg (.Name x pos) (fun σ H R' => xI X C W (.keys i) σ H R' ∧ Lockd X i σ H) := by
  refine ⟨fun pins s σ H R' I ⟨⟨Φ, Z, β, ρ, U, r, S, R, h, o⟩, a, l, od, ea, eH⟩ => ?_⟩
  rw [evIt] at h
  split at h
  · rename_i t kvs hρ
    split at h
    · rename_i ht
      subst ht
      cases h
      obtain ⟨v, e1, r1⟩ := S.2 i _ hρ
      rw [ea] at e1
      cases e1
      simp only [RepV] at r1
      obtain ⟨a', e2, r1⟩ := r1
      cases e2
      rcases r1 with ⟨h0, _⟩ | ⟨_, l', hrd, nd, rt⟩
      · cases h0
      have hz : Z a = some (.frz od (dN X.prog X.w a l')) := by
        rcases hrd with q | ⟨od', q⟩
        · have := R.zle _ _ q
          rw [eH] at this
          cases this
        · have := R.zle _ _ q
          rw [eH] at this
          injection this with this
          injection this with t1 t2
          subst t1
          exact q
      refine L2.thn ((pe_var hN hv hd hcd).run pins s σ H (fun y H1 => y = .ref a ∧ H1 = H) I ⟨.ref a, ea, rfl, rfl⟩) fun u s1 ⟨y, H1, I1, ry, ey, eH1⟩ => ?_
      subst ey eH1
      obtain rfl : u = Value.ref a := ry
      obtain ⟨hs, hgd, hx, es, ep, hdt, hsz, ent⟩ := frzN I1 (R.zle _ _ hz)
      refine iter_keys hs hgd hx hdt (pi_one (tk := s1.toks) I1 _ (turn_keysN _ hdt) ⟨_, Heap.get?_push_size _ rfl, rfl, ?_⟩ (o.ok Z β H1 _ (ZLe.refl _) (BLe.refl _) R (walk_keys hz rt)))
      rw [hsz] <;> rfl
    · cases h
  · cases h
end
theorem lcGo_noex {tg : Tg} {cond : Rho → M Bool} {el : Rho → M D} {ρ : Rho} : ∀ {gs : List (Store → Option D)} {U V : Store} {x : Ex}, lcGo (turnL tg cond el ρ) gs U = some (.ex x V) → False
  | [], U, V, x, h => by cases h
  | g :: r, U, V, x, h => by
    rw [lcGo] at h
    dsimp only at h
    split at h
    · rename_i d hd
      cases q : turnL tg cond el ρ d U with
      | none => rw [q] at h; cases h
      | some r1 =>
        rw [q] at h
        cases r1 with
        | ex y V1 =>
          unfold turnL noEx at q
          split at q <;> cases q
        | ok od V1 =>
          simp only [bnd_ok] at h
          cases q2 : lcGo (turnL tg cond el ρ) r V1 with
          | none => rw [q2] at h; cases h
          | some r2 =>
            rw [q2] at h
            cases r2 with
            | ex y V2 => exact lcGo_noex q2
            | ok ds V2 => cases h
    · cases h
theorem lcK_ok {C : Cal} {m : Bool} {own : List Nat} {t : Tg} {i : Nat} {cd el : IE} {ρ : Rho} {U V : Store} {x : Ex} (h : ev C (.lc m own t (.keys i) cd el) ρ U = some (.ex x V)) : False := by
  rw [ev, evIt] at h
  split at h
  · split at h
    · simp only [bnd_ok] at h
      split at h
      · cases h
      · cases q : lcGo (turnL t (evB C cd) (ev C el) (wipe ρ own)) (fixS (List.map (fun x => x.1) ‹List (D × D)›)).get U with
        | none => rw [q] at h; cases h
        | some r =>
          rw [q] at h
          cases r with
          | ex y V1 => exact lcGo_noex q
          | ok ds V1 =>
            simp only [bnd_ok] at h
            split at h
            · unfold mkL at h
              split at h <;> cases h
            · cases h
    · cases h
  · cases h
/-- a comprehension over a dict's keys: locked already, or to be locked -/
theorem lcK_core {X : Cx} {C : Cal} {W : WX} {m : Bool} {own : List Nat} {t : Tg} {i : Nat} {cd el : IE} {g : TG} {tt : TT} {te : TE} {σ : L2.St} {H : Hp} {Q : VK}
    (q : ∀ σ H Q, xE X C W (.lc m own t (.keys i) cd el) σ H Q → tLc (xI X C W (.keys i)) g tt te own σ H Q) (x : xE X C W (.lc m own t (.keys i) cd el) σ H Q) :
    tLc (fun σ H R' => xI X C W (.keys i) σ H R' ∧ Lockd X i σ H) g tt te own σ H Q ∨
    ∃ a u, H a = some u ∧ Mut (some u) ∧ ∀ od, tLc (fun σ H R' => xI X C W (.keys i) σ H R' ∧ Lockd X i σ H) g tt te own σ (L2.upd H a (.frz od u)) (fun v H' => H' a = some (.frz od u) ∧ Q v (L2.upd H' a u)) := by
  obtain ⟨Φ, Z, β, ρ, U, r, S, R, h, o⟩ := x
  obtain ⟨kvs, hρ⟩ : ∃ kvs, ρ[i]? = some (some (.dct 1 kvs)) := by
    have h2 := h
    rw [ev, evIt] at h2
    split at h2
    · split at h2
      · rename_i kvs hρ ht
        subst ht
        exact ⟨kvs, hρ⟩
      · cases h2
    · cases h2
  obtain ⟨v, e1, r1⟩ := S.2 i _ hρ
  simp only [RepV] at r1
  obtain ⟨a, rfl, r1⟩ := r1
  rcases r1 with ⟨h0, _⟩ | ⟨_, l, hrd, nd, rt⟩
  · cases h0
  rcases hrd with hz | ⟨od, hz⟩
  · refine .inr ⟨a, dN X.prog X.w a l, R.zle _ _ hz, True.intro, fun od => ?_⟩
    have key : xE X C W (.lc m own t (.keys i) cd el) σ (L2.upd H a (.frz od (dN X.prog X.w a l))) (fun v H' => H' a = some (.frz od (dN X.prog X.w a l)) ∧ Q v (L2.upd H' a (dN X.prog X.w a l))) := by
      refine ⟨Φ, L2.upd Z a (.frz od (dN X.prog X.w a l)), β, ρ, U, r, S.sim (sim_lock hz), R.retype hz (sim_lock hz), h, ?_⟩
      cases r with
      | ex x V => exact (lcK_ok h).elim
      | ok d U' =>
        intro Z2 β2 H2 v z2 b2 R2 r2
        have ez : Z2 a = some (.frz od (dN X.prog X.w a l)) := z2 _ _ upd_same
        refine ⟨R2.zle _ _ ez, o.ok (L2.upd Z2 a (dN X.prog X.w a l)) β2 _ v (fun b u hb => ?_) b2 (R2.retype ez (sim_unlock ez)) (r2.sim (sim_unlock ez))⟩
        by_cases hba : b = a
        · subst hba
          rw [hz] at hb
          cases hb
          exact upd_same
        · rw [upd_ne hba]
          exact z2 _ _ (by rw [upd_ne hba]; exact hb)
    have lk : Lockd X i σ (L2.upd H a (.frz od (dN X.prog X.w a l))) := ⟨a, l, od, e1, upd_same⟩
    obtain ⟨Φ', Z', β', ρ', U', r', S', R', h', o'⟩ := q σ _ _ key
    exact ⟨⟨Φ', Z', β', ρ', U', r', S', R', h', o'⟩, lk⟩
  · obtain ⟨Φ', Z', β', ρ', U', r', S', R', h', o'⟩ := q σ H Q ⟨Φ, Z, β, ρ, U, r, S, R, h, o⟩
    exact .inl ⟨⟨Φ', Z', β', ρ', U', r', S', R', h', o'⟩, a, l, od, e1, R.zle _ _ hz⟩
theorem n_lcK {X : Cx} {C : Cal} {W : WX} {m : Bool} {own : List Nat} {t : Tg} {i : Nat} {cd el : IE} {e : Expr} {g : TG} {tt : TT} {te : TE} (p : PE X e (tLc (fun σ H R' => xI X C W (.keys i) σ H R' ∧ Lockd X i σ H) g tt te own))
    (q : ∀ σ H Q, xE X C W (.lc m own t (.keys i) cd el) σ H Q → tLc (xI X C W (.keys i)) g tt te own σ H Q) : PE X e (xE X C W (.lc m own t (.keys i) cd el)) :=
  ⟨fun pins s σ H Q I x => by
    rcases lcK_core q x with y | ⟨a, u, h1, h2, h3⟩
    · exact p.run pins s σ H Q I y
    · exact (pe_lock p).run pins s σ H Q I ⟨a, u, h1, h2, h3⟩⟩
/-- name = [.. for k in d ..] -/
theorem s_setK {X : Cx} {C : Cal} {W : WX} {m : Bool} {own : List Nat} {t : Tg} {i j : Nat} {cd el : IE} {st : Stmt} {g : TG} {tt : TT} {te : TE} (p : PS X st (fun D σ H => tLc (fun σ H R' => xI X C W (.keys i) σ H R' ∧ Lockd X i σ H) g tt te own σ H (fun x H1 => gName j x σ H1 D.nx)))
    (q : ∀ σ H Q, xE X C W (.lc m own t (.keys i) cd el) σ H Q → tLc (xI X C W (.keys i)) g tt te own σ H Q) : PS X st (fun D σ H => xE X C W (.lc m own t (.keys i) cd el) σ H (fun x H1 => gName j x σ H1 D.nx)) :=
  ⟨fun pins s σ H D I x => by
    rcases lcK_core q x with y | ⟨a, u, h1, h2, h3⟩
    · exact p.run pins s σ H D I y
    · exact (ps_lock p).run pins s σ H D I ⟨a, u, h1, h2, h3⟩⟩
end VI

/-! VIc15: sorted(list). -/
namespace VI
open PySem PySem.Spec PyProof.Rows L2
mutual
theorem alike_toP : ∀ (a b : D), VI.alike a b = true → PySem.W.alike (toP a) (toP b) = true
  | .int _, b, h => by
    cases b <;> simp only [VI.alike, Bool.false_eq_true] at h
    simp only [toP, PySem.W.alike]
  | .str _, b, h => by
    cases b <;> simp only [VI.alike, Bool.false_eq_true] at h
    simp only [toP, PySem.W.alike]
  | .tup xs, b, h => by
    cases b <;> simp only [VI.alike, Bool.false_eq_true] at h
    simp only [toP, PySem.W.alike]
    exact alikeT_toP xs _ h
  | .lst xs, b, h => by
    cases b <;> simp only [VI.alike, Bool.false_eq_true] at h
    simp only [toP, PySem.W.alike]
    exact alikeA_toP xs _ h
  | .non, b, h => by simp only [VI.alike, Bool.false_eq_true] at h
  | .bl _, b, h => by simp only [VI.alike, Bool.false_eq_true] at h
  | .dct _ _, b, h => by simp only [VI.alike, Bool.false_eq_true] at h
  | .ref _, b, h => by simp only [VI.alike, Bool.false_eq_true] at h
  | .exn _ _, b, h => by simp only [VI.alike, Bool.false_eq_true] at h
theorem alikeT_toP : ∀ (a b : List D), VI.alikeT a b = true → PySem.W.alikeAll (toPL a) (toPL b) = true
  | [], b, h => by
    cases b <;> simp only [VI.alikeT, Bool.false_eq_true] at h
    simp only [toPL, PySem.W.alikeAll]
  | x :: r, b, h => by
    cases b <;> simp only [VI.alikeT, Bool.false_eq_true, Bool.and_eq_true] at h
    simp only [toPL, PySem.W.alikeAll, Bool.and_eq_true]
    exact ⟨alike_toP x _ h.1, alikeT_toP r _ h.2⟩
theorem alikeA_toP : ∀ (a b : List D), VI.alikeA a b = true → PySem.W.alikeAll (toPL a) (toPL b) = true
  | [], b, h => by simp only [toPL, PySem.W.alikeAll]
  | x :: r, [], h => by simp only [toPL, PySem.W.alikeAll]
  | x :: r, y :: s, h => by
    simp only [VI.alikeA, Bool.and_eq_true] at h
    simp only [toPL, PySem.W.alikeAll, Bool.and_eq_true]
    exact ⟨alike_toP x _ h.1, alikeA_toP r _ h.2⟩
end
theorem rowLt_nn : PySem.W.rowLt [] [] = false := lex_irrefl _
theorem rowLt_nc (y : PyData) (ys : List PyData) : PySem.W.rowLt [] (y :: ys) = true := by
  unfold PySem.W.rowLt
  rw [PySem.W.toks_all_cons]
  simp only [PySem.W.keyToksAll]
  rw [lex_diff (O := itemOrd) (by simp)]
  rfl
theorem rowLt_cn (y : PyData) (ys : List PyData) : PySem.W.rowLt (y :: ys) [] = false := by
  unfold PySem.W.rowLt
  rw [PySem.W.toks_all_cons]
  simp only [PySem.W.keyToksAll]
  rw [lex_diff (O := itemOrd) (by simp)]
  rfl
mutual
theorem lt_toP : ∀ (a b : D) (n m : Nat), plain a n = true → plain b m = true → VI.alike a b = true → ∃ k, pylt a b = some k ∧ PySem.W.dataLt (toP a) (toP b) = k
  | .int i, b, n, m, hp, hq, h => by
    cases b <;> simp only [VI.alike, Bool.false_eq_true] at h
    rename_i j
    exact ⟨decide (i < j), by simp only [pylt], by simp only [toP, PySem.W.dataLt_int]⟩
  | .str x, b, n, m, hp, hq, h => by
    cases b <;> simp only [VI.alike, Bool.false_eq_true] at h
    rename_i y
    exact ⟨decide (x < y), by simp only [pylt], by simp only [toP, PySem.W.dataLt_str]⟩
  | .tup xs, b, n, m, hp, hq, h => by
    cases b <;> simp only [VI.alike, Bool.false_eq_true] at h
    rename_i ys
    cases n with
    | zero => simp [plain] at hp
    | succ n =>
      cases m with
      | zero => simp [plain] at hq
      | succ m =>
        simp only [plain] at hp hq
        obtain ⟨k, e1, e2⟩ := lt_toPL xs ys n m hp hq (alikeT_toP xs ys h) (alikeT_A xs ys h)
        exact ⟨k, by simp only [pylt]; exact e1, by simp only [toP, PySem.W.dataLt_tuple]; exact e2⟩
  | .lst xs, b, n, m, hp, hq, h => by
    cases b <;> simp only [VI.alike, Bool.false_eq_true] at h
    rename_i ys
    cases n with
    | zero => simp [plain] at hp
    | succ n =>
      cases m with
      | zero => simp [plain] at hq
      | succ m =>
        simp only [plain] at hp hq
        obtain ⟨k, e1, e2⟩ := lt_toPL xs ys n m hp hq (alikeA_toP xs ys h) h
        exact ⟨k, by simp only [pylt]; exact e1, by simp only [toP, PySem.W.dataLt_list]; exact e2⟩
  | .non, b, n, m, hp, hq, h => by simp only [VI.alike, Bool.false_eq_true] at h
  | .bl _, b, n, m, hp, hq, h => by simp only [VI.alike, Bool.false_eq_true] at h
  | .dct _ _, b, n, m, hp, hq, h => by simp only [VI.alike, Bool.false_eq_true] at h
  | .ref _, b, n, m, hp, hq, h => by simp only [VI.alike, Bool.false_eq_true] at h
  | .exn _ _, b, n, m, hp, hq, h => by simp only [VI.alike, Bool.false_eq_true] at h
theorem lt_toPL : ∀ (a b : List D) (n m : Nat), plainL a n = true → plainL b m = true → PySem.W.alikeAll (toPL a) (toPL b) = true → VI.alikeA a b = true → ∃ k, pyltL a b = some k ∧ PySem.W.rowLt (toPL a) (toPL b) = k
  | [], [], n, m, hp, hq, h, h' => ⟨false, by simp only [pyltL], by simp only [toPL]; exact rowLt_nn⟩
  | [], y :: s, n, m, hp, hq, h, h' => ⟨true, by simp only [pyltL], by simp only [toPL]; exact rowLt_nc _ _⟩
  | x :: r, [], n, m, hp, hq, h, h' => ⟨false, by simp only [pyltL], by simp only [toPL]; exact rowLt_cn _ _⟩
  | x :: r, y :: s, n, m, hp, hq, h, h' => by
    simp only [plainL, Bool.and_eq_true] at hp hq
    simp only [VI.alikeA, Bool.and_eq_true] at h'
    simp only [toPL] at h
    have h1 := PySem.W.alike_all_cons h
    obtain ⟨k, e1, e2⟩ := lt_toP x y n m hp.1 hq.1 h'.1
    obtain ⟨j, f1, f2⟩ := lt_toPL r s n m hp.2 hq.2 h1.2 h'.2
    have ee := eqv_toP x y n m hp.1 hq.1
    have un : PySem.W.rowLt (toPL (x :: r)) (toPL (y :: s)) = if PyData.eqv (toP x) (toP y) = true then PySem.W.rowLt (toPL r) (toPL s) else PySem.W.dataLt (toP x) (toP y) := by
      simp only [toPL]
      exact PySem.W.dataLt_cons h1.1 _ _
    rw [un, ee]
    by_cases c : pyeq x y = true
    · exact ⟨j, by simp only [pyltL, c, if_true]; exact f1, by rw [if_pos c]; exact f2⟩
    · exact ⟨k, by simp only [pyltL, c, if_false]; exact e1, by rw [if_neg c]; exact e2⟩
theorem alikeT_A : ∀ (a b : List D), VI.alikeT a b = true → VI.alikeA a b = true
  | [], b, h => by simp only [VI.alikeA]
  | x :: r, [], h => by simp only [VI.alikeA]
  | x :: r, y :: s, h => by
    simp only [VI.alikeT, Bool.and_eq_true] at h
    simp only [VI.alikeA, Bool.and_eq_true]
    exact ⟨h.1, alikeT_A r s h.2⟩
end
section
variable {X : Cx} {m : Bool}
theorem zip3_each {ks : List D} : ∀ {xs : List D} {ws : List V} {us : List Value}, ks.length = xs.length → xs.length = ws.length → Vals ws us → PySem.W.EachIs (fun u (b : D × D × V) => RelV b.2.2 u) us (ks.zip (xs.zip ws)) := by
  induction ks with
  | nil =>
    intro xs ws us h1 h2 r
    cases xs with
    | nil =>
      cases ws with
      | nil => cases r; exact .nil
      | cons _ _ => cases h2
    | cons _ _ => cases h1
  | cons k ks ih =>
    intro xs ws us h1 h2 r
    cases xs with
    | nil => cases h1
    | cons x xs =>
      cases ws with
      | nil => cases h2
      | cons w ws =>
        cases r with
        | cons r0 r1 => exact .cons r0 (ih (by simpa using h1) (by simpa using h2) r1)
theorem zip3_rep {P : Program} {w : World} {K : PySem.W.Frag} {Z : Hp} {β : List Addr} {ks : List D} : ∀ {xs : List D} {ws : List V}, RepL P w K Z β xs ws → ∀ b ∈ ks.zip (xs.zip ws), RepV P w K Z β b.2.1 b.2.2 := by
  induction ks with
  | nil => intro xs ws h b hb; simp at hb
  | cons k ks ih =>
    intro xs ws h b hb
    cases xs with
    | nil => simp at hb
    | cons x xs =>
      simp only [RepL] at h
      obtain ⟨v, s, rfl, h1, h2⟩ := h
      simp only [List.zip_cons_cons, List.mem_cons] at hb
      rcases hb with rfl | hb
      · exact h1
      · exact ih h2 b hb
theorem zip3_fst {ks : List D} : ∀ {xs : List D} {ws : List V}, ks.length = xs.length → xs.length = ws.length → (ks.zip (xs.zip ws)).map (fun b => b.1) = ks ∧ (ks.zip (xs.zip ws)).map (fun b => (b.1, b.2.1)) = ks.zip xs := by
  induction ks with
  | nil => intro xs ws h1 h2; simp
  | cons k ks ih =>
    intro xs ws h1 h2
    cases xs with
    | nil => cases h1
    | cons x xs =>
      cases ws with
      | nil => cases h2
      | cons w ws =>
        obtain ⟨e1, e2⟩ := ih (xs := xs) (ws := ws) (by simpa using h1) (by simpa using h2)
        simp [e1, e2]
theorem rep_each {P : Program} {w : World} {K : PySem.W.Frag} {Z : Hp} {β : List Addr} : ∀ {bs : List (D × D × V)}, (∀ b ∈ bs, RepV P w K Z β b.2.1 b.2.2) → RepL P w K Z β (bs.map fun b => b.2.1) (bs.map fun b => b.2.2)
  | [], _ => RepL.nil
  | b :: r, h => RepL.cons (h b (by simp)) (rep_each fun c hc => h c (by simp [hc]))
theorem vals_each : ∀ {bs : List (D × D × V)} {us : List Value}, PySem.W.EachIs (fun u (b : D × D × V) => RelV b.2.2 u) us bs → Vals (bs.map fun b => b.2.2) us
  | _, _, .nil => .nil
  | _, _, .cons h t => .cons h (vals_each t)
theorem snapL_len {U : Store} : ∀ {ds ds' : List D}, snapL U ds = some ds' → ds'.length = ds.length
  | [], ds', h => by cases h; rfl
  | x :: r, ds', h => by
    simp only [snapL] at h
    split at h
    · rename_i y s e1 e2
      cases h
      simp [snapL_len e2]
    · cases h
theorem sortable_toP {ks : List D} {n : Nat} (hp : plainL ks n = true) (h : canSort ks = true) : PySem.W.AllAlike (ks.map toP) ∧ PySem.W.Sortable (ks.map toP) := by
  unfold canSort at h
  simp only [Bool.and_eq_true, Bool.or_eq_true, List.all_eq_true] at h
  obtain ⟨h1, h2⟩ := h
  refine ⟨fun d hd d' hd' => ?_, ?_⟩
  · obtain ⟨a, ha, rfl⟩ := List.mem_map.mp hd
    obtain ⟨b, hb, rfl⟩ := List.mem_map.mp hd'
    exact alike_toP a b (h1 a ha b hb)
  · rcases h2 with h2 | h2
    · refine .inl fun d hd => ?_
      obtain ⟨a, ha, rfl⟩ := List.mem_map.mp hd
      have := h2 a ha
      unfold isT1 at this
      split at this
      · rename_i z zs
        exact ⟨toP z, toPL zs, by simp only [toP, toPL]⟩
      · cases this
    · refine .inr fun d hd => ?_
      obtain ⟨a, ha, rfl⟩ := List.mem_map.mp hd
      have q1 := h2 a ha
      have q2 := h1 a ha a ha
      cases a <;> simp only [noTu, VI.alike, Bool.false_eq_true] at q1 q2 <;> simp only [toP] <;> exact ⟨(fun z => nomatch z), fun _ z => nomatch z⟩
theorem plainL_mem {ks : List D} {n : Nat} (hp : plainL ks n = true) : ∀ a ∈ ks, plain a n = true := by
  induction ks with
  | nil => intro a h; cases h
  | cons x r ih =>
    simp only [plainL, Bool.and_eq_true] at hp
    intro a h
    rcases List.mem_cons.mp h with rfl | h
    · exact hp.1
    · exact ih hp.2 a h
theorem c_sorted1 (hu : X.A.units + 65 < cLine) : CallR X (.builtin "sorted") (rP X .sorted1 m) := by
  intro pins s σ H vs us Q I rv ⟨Φ, Z, β, U, ds, d', U', R, q, e, dn⟩
  have sh : ∃ d, ds = [d] := by
    unfold prim at e
    split at e <;> first | exact ⟨_, rfl⟩ | simp_all
  obtain ⟨d, rfl⟩ := sh
  obtain ⟨v, rfl, r⟩ := one_rep q
  rw [prim] at e
  split at e
  · rename_i xs hx
    split at e
    · rename_i ks hk
      split at e
      · rename_i hp
        split at e
        · rename_i ys hy
          unfold sortBy at hy
          split at hy
          · rename_i hc
            cases hy
            obtain ⟨p, ws, rfl, sq, qw⟩ := R.list hx r
            obtain ⟨its, rw1, hl, hz⟩ := I.list sq
            rw [Vals.ref1 rv]
            have hks := snapL_rep R hk qw
            obtain ⟨as, ra⟩ := Dp.readsAll I (toPL ks) ws its (dpL_of hp hks) rw1
            have l1 : ks.length = xs.length := hc.1
            have l2 : xs.length = ws.length := qw.length
            obtain ⟨e1, e2⟩ := zip3_fst (ks := ks) (xs := xs) (ws := ws) l1 l2
            have me : (ks.zip (xs.zip ws)).map (fun b => toP b.1) = ks.map toP := by
              have := congrArg (List.map toP) e1
              rw [List.map_map] at this
              exact this
            obtain ⟨s1, s2⟩ := sortable_toP hp hc.2
            have hlen : (ks.zip (xs.zip ws)).length = its.length := by
              rw [List.length_zip, List.length_zip, ← rw1.length]
              omega
            have hL : its.length ≤ sizeLine := by rw [← rw1.length]; exact hz
            refine PySem.W.sorted_data (vs := its) (bs := ks.zip (xs.zip ws)) (enc := fun b => toP b.1) (R := fun u (b : D × D × V) => RelV b.2.2 u) hl.isList (zip3_each l1 l2 rw1) (PySem.W.readsAll_each (fun b : D × D × V => toP b.1) (as := as) (by rw [me, ← toPL_map]; exact ra)) (by rw [me]; exact s1) (by rw [me]; exact s2) (by rw [hlen]; exact hL) (fun b hb => ?_) fun out ho eo => ?_
            · have hb1 : b.1 ∈ ks := (List.of_mem_zip hb).1
              have := (lay_toP b.1 39 (plainL_mem hp _ hb1)).2
              omega
            · obtain ⟨ep, he'⟩ := PyProof.Rows.sortedAll_at s.heap its out.toArray
              have hcongr : ((ks.zip (xs.zip ws)).mergeSort (PySem.W.dataLe false fun b => toP b.1)).map (fun b => (b.1, b.2.1)) = (ks.zip xs).mergeSort fun p q => !ltD q.1 p.1 := by
                rw [← e2]
                refine List.map_mergeSort fun a ha b hb => ?_
                have ha1 : a.1 ∈ ks := (List.of_mem_zip ha).1
                have hb1 : b.1 ∈ ks := (List.of_mem_zip hb).1
                have al : VI.alike b.1 a.1 = true := by
                  have hcs := hc.2
                  unfold canSort at hcs
                  simp only [Bool.and_eq_true, List.all_eq_true] at hcs
                  exact hcs.1 _ hb1 _ ha1
                obtain ⟨k, f1, f2⟩ := lt_toP b.1 a.1 39 39 (plainL_mem hp _ hb1) (plainL_mem hp _ ha1) al
                show (!PySem.W.dataLt (toP b.1) (toP a.1)) = !ltD b.1 a.1
                rw [f2]
                unfold ltD
                rw [f1]
                rfl
              have hys : ((ks.zip xs).mergeSort fun p q => !ltD q.1 p.1).map (·.2) = ((ks.zip (xs.zip ws)).mergeSort (PySem.W.dataLe false fun b => toP b.1)).map fun b => b.2.1 := by
                rw [← hcongr, List.map_map]
                rfl
              rw [hys] at e
              have hrep : RepL X.prog X.w X.K Z β (((ks.zip (xs.zip ws)).mergeSort (PySem.W.dataLe false fun b => toP b.1)).map fun b => b.2.1) (((ks.zip (xs.zip ws)).mergeSort (PySem.W.dataLe false fun b => toP b.1)).map fun b => b.2.2) :=
                rep_each fun b hb => zip3_rep qw b ((List.mergeSort_perm _ _).mem_iff.mp hb)
              have hvl := vals_each eo
              have hlen2 : (((ks.zip (xs.zip ws)).mergeSort (PySem.W.dataLe false fun b => toP b.1)).map fun b => b.2.2).length ≤ sizeLine := by
                rw [List.length_map, List.length_mergeSort, hlen]
                exact hL
              exact ⟨.ref _, L2.upd H (s.heap.objs.size + 1) (.lst _), I.laid (t' := s.toks) (fun _ _ => PyProof.Rows.sortedAll_old) (Nat.le_succ _) ⟨hlen2, _, ep, hvl, he'⟩, rfl, dn.lst R e hrep (I.hok.fresh (Nat.le_succ _))⟩
          · cases hy
        · cases e
      · cases e
    · cases e
  · cases e
end
end VI

/-! VIc16: len(set(texts)), sorted(set(texts)), list(reversed(list)): texts without doubles. -/
namespace VI
open PySem PySem.Spec PyProof.Rows L2
open PySem.Froz (SD sObj addTx tailTx TxOk)
/-- a set's payload that can be walked -/
def Lay (w : World) (D : SD) : Prop := Ris D.2.2.place.toList ∧ (w.params.followText "set-order" = true ∨ D.2.2.led = true)
section
variable {w : World}
theorem lay_tail {ep : Nat} {es : Array (Int × Value)} {t : SetTable} {b : Bool} (h1 : Ris t.place.toList) (h2 : w.params.followText "set-order" = true ∨ t.led = true) : Lay w (tailTx ep es t b) := by
  unfold tailTx Lay
  split
  · refine ⟨relayAll_ris _ _ _, h2.imp id fun q => ?_⟩
    show (relayAll t es (SetTable.grown es.size)).2.1.led = true
    rw [relayAll_led, q]
  · exact ⟨h1, h2⟩
theorem lay_add {D : SD} {h : Int} {v : Value} (l : Lay w D) : Lay w (addTx h v D) := by
  obtain ⟨es, ep, t⟩ := D
  have r1 := layNew_ris t es h v l.1
  have r2 := layNew_led t es h v
  have r3 : w.params.followText "set-order" = true ∨ (layNew t es h v).2.1.led = true := l.2.imp id fun q => by rw [r2]; exact q
  unfold addTx
  refine lay_tail ?_ ?_
  · show Ris (if (layNew t es h v).2.1.plain = true then _ else _ : SetTable).place.toList
    split <;> exact r1
  · show _ ∨ (if (layNew t es h v).2.1.plain = true then _ else _ : SetTable).led = true
    split <;> exact r3
end
/-- the i-th of some texts -/
theorem str_at {vs : List Value} {xs : List Str} (h : StrsAre vs xs) : ∀ (i : Nat) (v : Value), vs[i]? = some v → ∃ k t, xs[i]? = some k ∧ v = .str k t := by
  induction h with
  | nil => intro i v e; simp at e
  | cons n t _ ih =>
    intro i v e
    cases i with
    | zero =>
      simp at e
      exact ⟨n, t, rfl, e.symm⟩
    | succ i =>
      simp only [List.getElem?_cons_succ] at e ⊢
      exact ih i v e
theorem nodup_leS : ∀ {l m : List Str}, l.Nodup → (∀ x ∈ l, x ∈ m) → l.length ≤ m.length
  | [], m, _, _ => Nat.zero_le _
  | x :: r, m, nd, h => by
    rw [List.nodup_cons] at nd
    have hx : x ∈ m := h x (by simp)
    have ih := nodup_leS (m := m.erase x) nd.2 fun y hy => (List.mem_erase_of_ne (fun (q : y = x) => nd.1 (q ▸ hy))).mpr (h y (by simp [hy]))
    rw [List.length_erase_of_mem hx] at ih
    have := List.length_pos_of_mem hx
    simp only [List.length_cons]
    omega
/-- l holds the texts of xs, each once -/
def Once (l xs : List Str) : Prop := l.Nodup ∧ ∀ k, k ∈ l ↔ k ∈ xs
theorem Once.len {l xs : List Str} (o : Once l xs) : l.length ≤ xs.length := nodup_leS o.1 fun x hx => (o.2 x).mp hx
section
variable {P : Program} {w : World} {A : Around} {E : Value → Shared → Prop} {s : Shared}
/-- a text that is there already -/
theorem add_old {a : Addr} {T : String} {D : SD} {l : List Str} {k : Str} {u : Tok} {Q : Bool → Shared → Prop} (ho : s.heap.get? a = some (sObj T D)) (F : TxOk P w D l) (hk : k ∈ l) (hb : l.length < scanBound) (h : Q false s) :
    wpAny (model P w) A (setAddHashed a (.str k u) (hashStr w k)) Q E s := by
  obtain ⟨es, ep, t⟩ := D
  have hd : (sObj T (es, ep, t)).data = .set es ep t := rfl
  have hf : t.fits es.size = true := F.fit
  have hel : ElemsOf (strKind P w) es.toList := F.el
  have hsz : es.size = l.length := F.sz
  have hsc : (Value.str k u).scannable = true := rfl
  have hkey : (strKind P w).is k (.str k u) = true := strKind_is P w k u
  obtain ⟨e, he, hi⟩ := (F.mem k).mp hk
  unfold setAddHashed setAddHashedIn
  refine wpAny_holding (wpAny_bind (wpAny_setState_of ho hd hf ?_))
  dsimp only
  rw [byScan_of hsc (by omega) hel]
  simp only [↓reduceIte]
  unfold setAddByScan
  refine wpAny_bind ?_
  refine wpAny_bind (wpAny_rule ?_)
  refine wpAny_bind (wpAny_setScan_of hkey ho hd hf hel ?_)
  cases hr : List.findIdx? (fun e => (strKind P w).is k e.2) es.toList with
  | none =>
    have := List.findIdx?_eq_none_iff.mp hr e he
    rw [hi] at this
    cases this
  | some j => exact wpAny_pure (wpAny_pure h)
end
section
variable {P : Program} {w : World} {A : Around} {R : Result → Shared → Prop} {I : Addr} {fp wr : List Addr} {G : Array GenState → Array GenState → Prop} {n : Nat} {Pv : Nat → Value → Prop} {St : Nat → Shared → Prop}
/-- the texts that an iterator gives, put into a set one by one -/
theorem fill_texts (W : WalksS P w A.in1 I fp wr G n Pv St) {S : Addr} (hS : S ∉ fp) {xs : List Str} (hn : xs.length = n) (hb : n + 1 < scanBound) (hv : ∀ i v, Pv i v → ∃ k t, xs[i]? = some k ∧ v = .str k t) :
    ∀ (m i : Nat) (s : Shared) (D : SD) (l : List Str), i + m = n → St i s → s.heap.get? S = some (sObj "set" D) → TxOk P w D l → Once l (xs.take i) → Lay w D →
      (∀ s' D' l', Moved (S :: wr) G s s' → s'.heap.get? S = some (sObj "set" D') → TxOk P w D' l' → Once l' xs → Lay w D' → R (.ok (.ret .none)) s') →
      codeAny (model P w) A (.builtin "set.update.loop" ⟨[.ref S, .ref I], []⟩) R s := by
  have out : S ∉ wr := fun q => hS (W.sub _ q)
  have up : ∀ b ∈ wr, b ∈ S :: wr := fun b q => List.mem_cons_of_mem _ q
  intro m
  induction m with
  | zero =>
    intro i s D l e st ho ok oc ly fin
    have e : i = n := by omega
    subst e
    rw [List.take_of_length_le (by omega)] at oc
    refine codeAny_builtin PyProof.Rows.F.entry_set_update_loop ?_
    rw [Around.under_plainId PyProof.Rows.F.plain_set_update_loop _]
    show wpAny _ A.in1 (pyNext (.ref I) >>= _) _ _ s
    refine wpAny_bind (W.done s _ _ st fun s' mv => ?_)
    show wpAny _ A.in1 (PySem.ret Value.none) _ _ s'
    exact wpAny_pure (fin s' D l (mv.mono up) (mv.heap S _ out ho) ok oc ly)
  | succ m ih =>
    intro i s D l e st ho ok oc ly fin
    refine codeAny_builtin PyProof.Rows.F.entry_set_update_loop ?_
    rw [Around.under_plainId PyProof.Rows.F.plain_set_update_loop _]
    show wpAny _ A.in1 (pyNext (.ref I) >>= _) _ _ s
    refine wpAny_bind (W.item i s _ _ (by omega) st fun v s1 pv st1 mv => ?_)
    obtain ⟨k, t, ek, rfl⟩ := hv i v pv
    have ho1 := mv.heap S _ out ho
    have hi : i < xs.length := by omega
    have hk : xs[i] = k := by
      rw [List.getElem?_eq_getElem hi] at ek
      exact Option.some.inj ek
    have tk : xs.take (i + 1) = xs.take i ++ [k] := by
      rw [← hk]
      exact List.take_succ_eq_append_getElem hi
    have ll := oc.len
    rw [List.length_take] at ll
    show wpAny _ A.in1 (holding [Value.str k t] (setAdd S (.str k t)) >>= _) _ _ s1
    refine wpAny_bind (wpAny_holding ?_)
    unfold setAdd
    refine wpAny_holding ?_
    refine wpAny_bind ((strKind P w).pyHash (k := k) (strKind_is P w k t) ?_)
    by_cases hkl : k ∈ l
    · have oc1 : Once l (xs.take (i + 1)) := ⟨oc.1, fun j => by
        rw [tk, List.mem_append, List.mem_singleton, oc.2 j]
        constructor
        · exact .inl
        · rintro (q | rfl)
          · exact q
          · exact (oc.2 j).mp hkl⟩
      refine add_old (s := { s1 with toks := s1.toks + 1 }) ho1 ok hkl (by omega) ?_
      refine wpAny_pure ⟨plainId_quiet PyProof.Rows.F.plain_set_update_loop _, ih (i + 1) _ D l (by omega) (W.frame _ s1 _ _ st1 (Nat.le_succ _) fun b q o eo => eo) ho1 ok oc1 ly fun s2 D2 l2 mv2 ho2 ok2 oc2 ly2 => ?_⟩
      exact fin s2 D2 l2 (Moved.trans W.gtrans ((mv.mono up).then_heap (Nat.le_succ _) fun b o q eo => eo) mv2) ho2 ok2 oc2 ly2
    · have oc1 : Once (k :: l) (xs.take (i + 1)) := ⟨List.nodup_cons.mpr ⟨hkl, oc.1⟩, fun j => by
        rw [tk, List.mem_append, List.mem_singleton, List.mem_cons, oc.2 j]
        exact Or.comm⟩
      refine PySem.Froz.add_x (s := { s1 with toks := s1.toks + 1 }) ho1 ok hkl (by omega) ?_
      have lt : S < s1.heap.objs.size := Heap.lt_size ho1
      have oth : ∀ b o, b ≠ S → s1.heap.get? b = some o → (s1.heap.update S (fun _ => sObj "set" (addTx (hashStr w k) (.str k t) D))).get? b = some o := fun b o hb q => (Heap.get?_update_other _ _ (Ne.symm hb)).trans q
      have sf : (s1.heap.update S (fun _ => sObj "set" (addTx (hashStr w k) (.str k t) D))).get? S = some (sObj "set" (addTx (hashStr w k) (.str k t) D)) := Heap.get?_update_self (fun _ => sObj "set" (addTx (hashStr w k) (.str k t) D)) ho1 rfl
      refine wpAny_pure ⟨plainId_quiet PyProof.Rows.F.plain_set_update_loop _, ih (i + 1) _ _ (k :: l) (by omega) (W.frame _ s1 _ _ st1 (Nat.le_succ _) fun b q o eo => oth b o (fun z => hS (z ▸ q)) eo) sf (PySem.Froz.add_ok t ok) oc1 (lay_add ly) fun s2 D2 l2 mv2 ho2 ok2 oc2 ly2 => ?_⟩
      exact fin s2 D2 l2 (Moved.trans W.gtrans ((mv.mono up).then_heap (Nat.le_succ _) fun b o q eo => oth b o (fun z => q (z ▸ List.mem_cons_self)) eo) mv2) ho2 ok2 oc2 ly2
end
section
variable {P : Program} {w : World} {A : Around} {E : Value → Shared → Prop} {s : Shared}
/-- a new set -/
def newSet (w : World) : Obj := { cls := .type "set", dict := none, data := .set #[] 0 (.fresh 0 0 (!w.params.followText "set-order")) }
theorem newSet_lay (w : World) : Lay w (#[], 0, .fresh 0 0 (!w.params.followText "set-order")) := by
  refine ⟨List.Pairwise.nil, ?_⟩
  show _ ∨ (!w.params.followText "set-order") = true
  cases w.params.followText "set-order"
  · exact .inr rfl
  · exact .inl rfl
/-- set(list of texts) -/
theorem set_of_texts {l : Addr} {items : Array Value} {xs : List Str} {Q : Value → Shared → Prop} (hh : A.handled = none) (hl : s.heap.IsList l items) (hi : StrsAre items.toList xs) (hb : xs.length + 1 < scanBound)
    (h : ∀ (h' : Heap) (tk : Nat) (D : SD) (l : List Str), h'.get? s.heap.objs.size = some (sObj "set" D) → TxOk P w D l → Once l xs → Lay w D → (∀ b o, s.heap.get? b = some o → h'.get? b = some o) → Q (.ref s.heap.objs.size) { s with heap := h', toks := tk }) :
    wpAny (model P w) A (call (.type "set") [.ref l]) Q E s := by
  obtain ⟨c, tl, hmro⟩ := PySem.F.called_set.mro
  have hmade := PySem.F.called_set.made
  have hsub := PySem.F.called_set.sub
  have h1 := PySem.F.called_set.notType
  have h2 := PySem.F.called_set.canCreate
  have hct := PySem.F.typeCall_set_1 (.ref l)
  have hli := PySem.F.called_set.init.lookup
  have hbi := PySem.F.called_set.init.bind (.ref s.heap.objs.size)
  refine wpAny_call (codeAny_of_tree ?_)
  show wpAny _ _ (callAny (.type "set") _) _ _ _
  refine wpAny_pure ⟨Code.quiet_builtin _ (by decide +kernel), codeAny_builtin PySem.F.entry_type_call ?_⟩
  rw [Around.under_plain (weight_type_call_type "set" [.ref l] []) rfl]
  repeat (any_goals (first | assumption | wp_step))
  refine codeAny_mono (code_set_led1 (.ref l) (E := E) (Q₁ := fun o s₁ => o = .ref s.heap.objs.size ∧ s₁ = { s with heap := s.heap.push (newSet w) }) ⟨rfl, rfl⟩) fun r s₁ hr => ?_
  match r, hr with
  | .ok (.ret o), hr =>
    obtain ⟨rfl, rfl⟩ := hr
    have gS : (s.heap.push (newSet w)).get? s.heap.objs.size = some (newSet w) := Heap.get?_push_size _ rfl
    have hT : Shared.TypeIs { s with heap := s.heap.push (newSet w) } (.ref s.heap.objs.size) "set" := ⟨_, gS, rfl⟩
    repeat (any_goals (first | assumption | wp_step))
    refine codeAny_mono (codeAny_call_builtin (R := wants (fun r s₂ => r = .none ∧ Q (.ref s.heap.objs.size) s₂) E) PySem.F.called_set.init.plain PySem.F.entry_set_init (check_set_init_1 hT ?_)) fun r₂ s₂ hr₂ => ?_
    · obtain ⟨ol, gl, hc, nl, hd⟩ := hl
      obtain ⟨ocls, odict, odata, oslots⟩ := ol
      simp only at hc hd
      subst hc; subst hd
      have ll : l < s.heap.objs.size := Heap.lt_size gl
      have gl1 : (s.heap.push (newSet w)).get? l = some { cls := .type "list", dict := odict, data := .seq items nl, slots := oslots } := Heap.get?_push_of_some _ gl
      have il1 : (s.heap.push (newSet w)).IsList l items := ⟨_, gl1, rfl, nl, rfl⟩
      have f1 := PySem.F.sub_list_set
      have f2 := PySem.F.sub_list_frozenset
      have f3 : (Value.type "list" == Value.type "dict") = false := by decide
      have gS' : (s.heap.push (newSet w)).get? s.heap.objs.size = some { cls := .type "set", dict := none, data := .set #[] 0 (.fresh 0 0 (!w.params.followText "set-order")) } := gS
      unfold Builtin.«set.__init__» noKeywords Builtin.Frozenset.updateFrom
      generalize hPI : pyIter = PI
      wp_walk
      subst hPI
      refine wpAny_pyIter_list il1 ?_
      refine wpAny_bind (wpAny_runValue ?_)
      have sz1 : (s.heap.push (newSet w)).objs.size = s.heap.objs.size + 1 := Heap.size_push _ _
      have n1 : l ≠ (s.heap.push (newSet w)).objs.size := by rw [sz1]; exact Nat.ne_of_lt (Nat.lt_succ_of_lt ll)
      have n2 : s.heap.objs.size ∉ [(s.heap.push (newSet w)).objs.size, l] := by
        rw [sz1]
        simp only [List.mem_cons, List.not_mem_nil, or_false, not_or]
        exact ⟨Nat.ne_of_lt (Nat.lt_succ_self _), Nat.ne_of_gt ll⟩
      have hh3 : A.in1.in1.in1.handled = none := by simp [hh]
      refine fill_texts ((Walks.list hh3 _ l n1 items).toS) n2 (xs := xs) (by rw [← StrsAre.len_eq hi, Array.length_toList]) (by rw [← Array.length_toList, StrsAre.len_eq hi]; exact hb)
        (fun i v hv => str_at hi i v (by rw [Array.getElem?_toList]; exact hv)) items.size 0 _ (#[], 0, .fresh 0 0 (!w.params.followText "set-order")) [] (Nat.zero_add _) ⟨⟨_, Heap.get?_push_size _ rfl, rfl, rfl⟩, il1.push _⟩ (Heap.get?_push_of_some _ gS) (PySem.Froz.TxOk.nil (by rfl)) ⟨List.nodup_nil, fun j => by simp⟩ (newSet_lay w) fun s' D' l' mv ho' ok' oc' ly' => ?_
      obtain ⟨h', g', d', tk', os'⟩ := s'
      obtain rfl : g' = s.gens := mv.gens
      obtain rfl : d' = s.drawn := mv.drawn
      obtain rfl : os' = s.os := mv.os
      show wpAny _ _ _ _ _ _
      refine wpAny_pure ?_
      show wpAny _ _ (PySem.ret Value.none) _ _ _
      refine wpAny_pure ⟨rfl, h h' tk' D' l' ho' ok' oc' ly' fun b o e => ?_⟩
      have hb : b < s.heap.objs.size := Heap.lt_size e
      have n3 : b ∉ [s.heap.objs.size, (s.heap.push (newSet w)).objs.size] := by
        rw [sz1]
        simp only [List.mem_cons, List.not_mem_nil, or_false, not_or]
        exact ⟨Nat.ne_of_lt hb, Nat.ne_of_lt (Nat.lt_succ_of_lt hb)⟩
      exact mv.heap b o n3 (Heap.get?_push_of_some _ (Heap.get?_push_of_some _ e))
    · match r₂, hr₂ with
      | .error e, hr₂ => exact hr₂
      | .ok (.ret r), hr₂ =>
        obtain ⟨rfl, hq⟩ := hr₂
        repeat (any_goals (first | assumption | wp_step))
  | .error e, hr => exact hr
end
end VI

/-! VIc17: calls within calls: len(set(x)), sorted(set(x)), list(reversed(x)). -/
namespace VI
open PySem PySem.Spec PyProof.Rows L2
open PySem.Froz (SD sObj addTx tailTx TxOk)
/-- a built-in called on what another one gives -/
def Comp2 (X : Cx) (f : Value) (T : String) (p : P) (m : Bool) : Prop := ∀ pins s σ H vs us Q, Inv X pins σ H s → Vals vs us → rP X p m vs H Q →
  wpAny (model X.prog X.w) X.A (call (.type T) us) (fun w s2 => wpAny (model X.prog X.w) X.A (call f [w]) (EP X pins σ Q) X.xe s2) X.xe s
section
variable {X : Cx} {C : Cal} {W : WX} {e1 : Expr} {a : IE} {pos q p1 p2 : Pos} {as : IEs} {x1 x2 : Str} {pr : P} {m : Bool} {T id : String}
theorem n_args (hp : isMeth pr = false) : ∀ σ H Q, xE X C W (.prim pr m (.cons a as)) σ H Q → xA X C W (.cons a as) σ H fun vs H1 => rP X pr m vs H1 Q := by
  intro σ H Q ⟨Φ, Z, β, ρ, U, r, S, R, h, o⟩
  rw [ev] at h
  have h : (bnd (evs C (.cons a as) ρ U) fun ds U2 => prim pr m ds U2) = some r := by
    rw [evs]
    cases q : ev C a ρ U with
    | none => simp only [q] at h; cases h
    | some r1 =>
      simp only [q] at h
      cases r1 with
      | ex x V => exact h
      | ok d V =>
        simp only [bnd_ok, recv_fun hp, if_true] at h ⊢
        cases q2 : evs C as ρ V with
        | none => rw [q2] at h; cases h
        | some r2 =>
          rw [q2] at h
          cases r2 with
          | ex x V2 => exact h
          | ok ds V2 => exact h
  refine tA_bnd S R h o.wish fun Z1 β1 H1 ds vs U1 z1 b1 R1 r1 S1 h1 => ?_
  obtain ⟨d3, U3, rfl⟩ := must h1 fun x V => prim_ok
  exact ⟨Φ, Z1, β1, U1, ds, d3, U3, R1, r1, h1, o.monoE z1 b1⟩
theorem n_comp {f : Value} (hf : (∃ id, f = .builtin id) ∨ ∃ U, f = .type U) (hc : Comp2 X f T pr m) (hp : isMeth pr = false) (g1 : Gl X x1) (m1 : X.mg x1 = none) (v1 : bootBuiltins x1 = some f) (n1 : x1 ≠ "__name__") (d1 : (x1 == ("__debug__" : Str)) = false)
    (g2 : Gl X x2) (m2 : X.mg x2 = none) (v2 : bootBuiltins x2 = some (.type T)) (n2 : x2 ≠ "__name__") (d2 : (x2 == ("__debug__" : Str)) = false) (ht : tame e1 = true) (ha : PA X [e1] (xA X C W (.cons a as))) :
    PE X (.Call (.Name x1 p1) [.Call (.Name x2 p2) [e1] [] q] [] pos) (xE X C W (.prim pr m (.cons a as))) := by
  refine ⟨fun pins s σ H Q I h => ?_⟩
  have h1 : (xA X C W (.cons a as)) σ H fun vs H1 => rP X pr m vs H1 Q := n_args hp σ H Q h
  have inner : ∀ E : Value → Shared → Prop, wpAny (model X.prog X.w) X.A (eval (.Call (.Name x2 p2) [e1] [] q) X.env) (fun w s2 => wpAny (model X.prog X.w) X.A (spliced (backTo pos (starEach [] X.env))) (fun ws s3 => wpAny (model X.prog X.w) X.A (call f (w :: ws)) (EP X pins σ Q) X.xe s3) X.xe s2) X.xe s := fun E => by
    refine wpAny_Call_Name_kw (ld_blt I g2 m2 v2 ?_ n2 d2)
    refine PyProof.Rows.callWith_type1 (L2.thn (ha.run q pins s σ H _ I h1) fun us s1 ⟨vs, H1, I1, r1, q1⟩ => ?_) (star_tame ht [] _) (by rfl)
    exact L2.thn (hc pins s1 σ H1 vs us Q I1 r1 q1) fun w s2 h2 => PyProof.Rows.args_nil h2
  refine wpAny_Call_Name_kw (ld_blt I g1 m1 v1 ?_ n1 d1)
  rcases hf with ⟨id, rfl⟩ | ⟨U, rfl⟩
  · exact PyProof.Rows.callWith_builtin1 (PyProof.Rows.args_cons (inner X.xe) (by rfl)) (by rfl) (by rfl)
  · exact PyProof.Rows.callWith_type1 (PyProof.Rows.args_cons (inner X.xe) (by rfl)) (by rfl) (by rfl)
/-! ### sets of texts -/
def toS (t : Tx) : Str := ⟨t.toArray⟩
theorem toS_inj {a b : Tx} (h : toS a = toS b) : a = b := by
  unfold toS at h
  have := congrArg (fun s : Str => s.cps.toList) h
  simpa using this
theorem mem_dedupT {x : Tx} : ∀ {ts : List Tx}, x ∈ dedupT ts ↔ x ∈ ts
  | [] => Iff.rfl
  | y :: r => by
    unfold dedupT
    split
    · rename_i q
      have q : y ∈ r := by simpa using q
      rw [mem_dedupT, List.mem_cons]
      constructor
      · exact .inr
      · rintro (rfl | h)
        · exact q
        · exact h
    · rw [List.mem_cons, List.mem_cons, mem_dedupT]
theorem dedupT_nd : ∀ ts : List Tx, (dedupT ts).Nodup
  | [] => List.nodup_nil
  | y :: r => by
    unfold dedupT
    split
    · exact dedupT_nd r
    · rename_i q
      rw [List.nodup_cons, mem_dedupT]
      exact ⟨by simpa using q, dedupT_nd r⟩
theorem dedup_toS (ts : List Tx) : Once ((dedupT ts).map toS) (ts.map toS) := by
  refine ⟨?_, fun k => ?_⟩
  · unfold List.Nodup
    rw [List.pairwise_map]
    exact List.Pairwise.imp (fun {a b} h e => h (toS_inj e)) (dedupT_nd ts)
  · rw [List.mem_map, List.mem_map]
    constructor
    · rintro ⟨t, ht, e⟩
      exact ⟨t, mem_dedupT.mp ht, e⟩
    · rintro ⟨t, ht, e⟩
      exact ⟨t, mem_dedupT.mpr ht, e⟩
theorem perm_cover {α : Type} [DecidableEq α] : ∀ {l k : List α}, l.Nodup → (∀ x ∈ l, x ∈ k) → k.length = l.length → k.Perm l
  | [], k, _, _, e => by
    have : k = [] := List.length_eq_zero_iff.mp e
    subst this
    exact .nil
  | x :: r, k, nd, h, e => by
    rw [List.nodup_cons] at nd
    have hx : x ∈ k := h x (by simp)
    have p := List.perm_cons_erase hx
    have hl : (k.erase x).length = r.length := by
      rw [List.length_erase_of_mem hx, e]
      rfl
    refine p.trans ((perm_cover nd.2 (fun y hy => ?_) hl).cons x)
    have ne : y ≠ x := fun q => nd.1 (q ▸ hy)
    exact (List.mem_erase_of_ne ne).mpr (h y (by simp [hy]))
theorem perm_once {l l' xs : List Str} (o : Once l xs) (o' : Once l' xs) : l.Perm l' := by
  have h1 := nodup_leS o.1 fun x hx => (o'.2 x).mpr ((o.2 x).mp hx)
  have h2 := nodup_leS o'.1 fun x hx => (o.2 x).mpr ((o'.2 x).mp hx)
  exact perm_cover o'.1 (fun x hx => (o.2 x).mpr ((o'.2 x).mp hx)) (by omega)
theorem bound_set : (4000 : Nat) + 1 < scanBound := by decide
theorem hc_lenSet (hu : X.calm = true) : Comp2 X (.builtin "len") "set" .lenSet m := by
  intro pins s σ H vs us Q I rv ⟨Φ, Z, β, U, ds, d', U', R, q, e, dn⟩
  have sh : ∃ d, ds = [d] := by
    unfold prim at e
    split at e <;> first | exact ⟨_, rfl⟩ | simp_all
  obtain ⟨d, rfl⟩ := sh
  obtain ⟨v, rfl, r⟩ := one_rep q
  rw [prim] at e
  split at e
  · rename_i xs hx
    split at e
    · rename_i ts ht
      split at e
      · rename_i hc
        obtain ⟨rfl, rfl⟩ := ok_inj e
        obtain ⟨p, ws, rfl, sq, qw⟩ := R.list hx r
        obtain ⟨its, rw1, hl, hz⟩ := I.list sq
        rw [Vals.ref1 rv]
        have ew := texts_rep ht qw
        have si : StrsAre its (ts.map toS) := L2.strsAre_of (by rw [ew] at rw1; exact rw1)
        refine set_of_texts (I.ok.hd hu) hl.isList (by simpa using si) (by rw [List.length_map]; have := bound_set; omega) fun h' tk D l ho ok oc ly k => ?_
        have I2 : Inv X pins σ H { s with heap := h', toks := tk } := I.kept (t' := tk) k
        have sz : D.1.size = (dedupT ts).length := by
          have p := perm_once oc (dedup_toS ts)
          rw [ok.sz, p.length_eq, List.length_map]
        have sl : (dedupT ts).length ≤ ts.length := by
          have := (dedup_toS ts).len
          rw [List.length_map, List.length_map] at this
          exact this
        refine PySem.call_len_set ho ⟨rfl, rfl, rfl⟩ rfl ok.fit (by rw [sz]; omega) ⟨.int (dedupT ts).length, H, I2.tok _, ⟨_, by rw [sz]⟩, dn.int R⟩
      · cases e
    · cases e
  · cases e
/-! ### sorted(set(..)) -/
def keyS (v : Value) : Str := match v with
  | .str k _ => k
  | _ => Str.empty
theorem is_strV {P : Program} {w : World} {k : Str} {v : Value} (h : (strKind P w).is k v = true) : ∃ t, v = .str k t := by
  have h : Value.isStrOf k v = true := h
  cases v with
  | str j t =>
    refine ⟨t, ?_⟩
    have e : j = k := by simpa [Value.isStrOf] using h
    rw [e]
  | _ => simp [Value.isStrOf] at h
theorem set_keys {P : Program} {w : World} {D : SD} {l : List Str} {vs : List Value} (ok : TxOk P w D l) (nd : l.Nodup) (pm : vs.Perm (D.1.toList.map (·.2))) : StrsAre vs (vs.map keyS) ∧ (vs.map keyS).Perm l := by
  have each : ∀ v ∈ vs, ∃ k t, v = .str k t := fun v hv => by
    obtain ⟨e, he, rfl⟩ := List.mem_map.mp (pm.mem_iff.mp hv)
    obtain ⟨⟨k, hk, _⟩, _⟩ := ok.el e he
    obtain ⟨t, q⟩ := is_strV hk
    exact ⟨k, t, q⟩
  refine ⟨?_, perm_cover nd (fun k hk => ?_) ?_⟩
  · clear pm
    induction vs with
    | nil => exact .nil
    | cons v r ih =>
      obtain ⟨k, t, rfl⟩ := each v (by simp)
      exact .cons k t (ih fun u hu => each u (by simp [hu]))
  · obtain ⟨e, he, hi⟩ := (ok.mem k).mp hk
    obtain ⟨t, q⟩ := is_strV hi
    refine List.mem_map.mpr ⟨e.2, pm.mem_iff.mpr (List.mem_map.mpr ⟨e, he, rfl⟩), ?_⟩
    rw [q]
    rfl
  · rw [List.length_map, pm.length_eq, List.length_map, Array.length_toList, ok.sz]
def leK (a b : Str) : Bool := decide (a.cps.toList ≤ b.cps.toList)
theorem sort_one {a b : List Str} (p : a.Perm b) : a.mergeSort leK = b.mergeSort leK := by
  have tr : ∀ x y z : Str, leK x y = true → leK y z = true → leK x z = true := fun x y z h1 h2 => by
    unfold leK at h1 h2 ⊢
    simp only [decide_eq_true_eq] at h1 h2 ⊢
    exact List.le_trans h1 h2
  have tot : ∀ x y : Str, (leK x y || leK y x) = true := fun x y => by
    unfold leK
    simp only [Bool.or_eq_true, decide_eq_true_eq]
    exact List.le_total _ _
  refine List.Perm.eq_of_pairwise (le := fun x y => leK x y = true) (fun x y _ _ h1 h2 => ?_) (List.pairwise_mergeSort tr tot a) (List.pairwise_mergeSort tr tot b) ((List.mergeSort_perm _ _).trans (p.trans (List.mergeSort_perm _ _).symm))
  unfold leK at h1 h2
  simp only [decide_eq_true_eq] at h1 h2
  have := List.le_antisymm h1 h2
  cases x
  cases y
  simp only [Array.toList_inj] at this
  rw [this]
def leT (a b : Tx) : Bool := !ltD (.str b) (.str a)
theorem sortBy_strs {ts : List Tx} {ys : List D} (h : sortBy (ts.map .str) (ts.map .str) = some ys) : ys = (ts.mergeSort leT).map .str := by
  unfold sortBy at h
  split at h
  · cases h
    have zz : ∀ l : List Tx, (l.map D.str).zip (l.map D.str) = l.map fun x => (D.str x, D.str x) := by
      intro l
      induction l with
      | nil => rfl
      | cons x r ih =>
        simp only [List.map_cons, List.zip_cons_cons]
        rw [ih]
    rw [zz]
    have : (ts.map fun x => (D.str x, D.str x)).mergeSort (fun p q => !ltD q.1 p.1) = (ts.mergeSort leT).map fun x => (D.str x, D.str x) :=
      (List.map_mergeSort (r := leT) (s := fun p q : D × D => !ltD q.1 p.1) (f := fun x : Tx => (D.str x, D.str x)) fun a _ b _ => rfl).symm
    rw [this, List.map_map]
    rfl
  · cases h
theorem sort_toS (ts : List Tx) : (ts.mergeSort leT).map toS = (ts.map toS).mergeSort leK := by
  refine List.map_mergeSort fun a _ b _ => ?_
  unfold leT leK ltD toS
  simp only [pylt, Option.getD_some]
  exact PySem.W.not_lt_str a b
theorem reps_strs {P : Program} {w : World} {K : PySem.W.Frag} {Z : Hp} {β : List Addr} : ∀ ts : List Tx, RepL P w K Z β (ts.map .str) ((ts.map toS).map V.str)
  | [] => RepL.nil
  | t :: r => RepL.cons (by simp only [RepV]; rfl) (reps_strs r)
theorem vals_strs : ∀ {ks : List Str} {us : List Value}, StrsAre us ks → Vals (ks.map V.str) us
  | _, _, .nil => .nil
  | _, _, .cons n t h => .cons ⟨t, rfl⟩ (vals_strs h)
theorem each_strs : ∀ {vs : List Value} {ks : List Str}, StrsAre vs ks → PySem.W.EachIs (fun (u : Value) (k : Str) => ∃ t, u = .str k t) vs ks
  | _, _, .nil => .nil
  | _, _, .cons n t h => .cons ⟨t, rfl⟩ (each_strs h)
theorem strs_each : ∀ {vs : List Value} {ks : List Str}, PySem.W.EachIs (fun (u : Value) (k : Str) => ∃ t, u = .str k t) vs ks → StrsAre vs ks
  | _, _, .nil => .nil
  | _, _, .cons ⟨t, e⟩ h => by
    subst e
    exact .cons _ t (strs_each h)
theorem each_reads {h : Heap} {a : Addr} : ∀ {vs : List Value} {ks : List Str}, StrsAre vs ks → PySem.W.EachIs (fun (u : Value) (k : Str) => ∃ as, Reads h u (.str k) as ∧ a ∉ as) vs ks
  | _, _, .nil => .nil
  | _, _, .cons n t h => .cons ⟨[], .str _ _, by simp⟩ (each_reads h)
theorem alike_strs (ks : List Str) : PySem.W.AllAlike (ks.map fun k => PyData.str k) ∧ PySem.W.Sortable (ks.map fun k => PyData.str k) := by
  refine ⟨fun d hd d' hd' => ?_, .inr fun d hd => ?_⟩
  · obtain ⟨a, _, rfl⟩ := List.mem_map.mp hd
    obtain ⟨b, _, rfl⟩ := List.mem_map.mp hd'
    simp only [PySem.W.alike]
  · obtain ⟨a, _, rfl⟩ := List.mem_map.mp hd
    exact ⟨(fun z => nomatch z), fun _ z => nomatch z⟩
theorem hc_sortedSet (hu : X.calm = true) (hun : X.A.units + 65 < cLine) : Comp2 X (.builtin "sorted") "set" .sortedSet m := by
  intro pins s σ H vs us Q I rv ⟨Φ, Z, β, U, ds, d', U', R, q, e, dn⟩
  have sh : ∃ d, ds = [d] := by
    unfold prim at e
    split at e <;> first | exact ⟨_, rfl⟩ | simp_all
  obtain ⟨d, rfl⟩ := sh
  obtain ⟨v, rfl, r⟩ := one_rep q
  rw [prim] at e
  split at e
  · rename_i xs hx
    split at e
    · rename_i ts ht
      split at e
      · rename_i hc
        split at e
        · rename_i ys hy
          obtain ⟨p, ws, rfl, sq, qw⟩ := R.list hx r
          obtain ⟨its, rw1, hl, hz⟩ := I.list sq
          rw [Vals.ref1 rv]
          have ew := texts_rep ht qw
          have si : StrsAre its (ts.map toS) := L2.strsAre_of (by rw [ew] at rw1; exact rw1)
          have od := dedup_toS ts
          have sl : (dedupT ts).length ≤ ts.length := by
            have := od.len
            rw [List.length_map, List.length_map] at this
            exact this
          have bs := bound_set
          have bl : (4000 : Nat) ≤ sizeLine := by rw [sizeLine_eq]; omega
          have hn : ts.length = its.length := by rw [StrsAre.len_eq si, List.length_map]
          have hh : X.A.handled = none := I.ok.hd hu
          refine set_of_texts hh hl.isList (by simpa using si) (by rw [List.length_map]; omega) fun h' tk D l ho ok oc ly k => ?_
          have pl := perm_once oc od
          have sz : D.1.size = (dedupT ts).length := by rw [ok.sz, pl.length_eq, List.length_map]
          refine Calls.call_function_entry kind_sorted plain_sorted entry_sorted (args_sorted1 _) ?_
          unfold Builtin.«sorted»
          refine wpAny_bind (m := checkCount "sorted" 1 1 _) (wpAny_pure ?_)
          refine wpAny_bind (collect_set (A := X.A.in1) (by simp [hh]) ⟨_, ho, rfl, rfl⟩ ok.fit (by rw [sz]; omega) ly.1 ly.2 fun s3 vs3 k3 hz3 g3 o3 pm => ?_)
          obtain ⟨sa, pk⟩ := set_keys ok oc.1 pm
          generalize vs3.map keyS = ks at sa pk
          have pk2 : ks.Perm ((dedupT ts).map toS) := pk.trans pl
          have lk : ks.length = (dedupT ts).length := by rw [pk2.length_eq, List.length_map]
          have lv : vs3.length = (dedupT ts).length := by rw [StrsAre.len_eq sa, lk]
          refine wpAny_bind (wpAny_newList ?_ (by rw [lv]; omega))
          have hoL : (s3.heap.push (seqObj "list" vs3.toArray 0)).get? s3.heap.objs.size = some (seqObj "list" vs3.toArray 0) := Heap.get?_push_size _ rfl
          obtain ⟨al, so⟩ := alike_strs ks
          refine wpAny_bind (wpAny_holding (PySem.W.list_sort_data (A := X.A.in1) (bs := ks) (enc := fun k : Str => PyData.str k) (R := fun (u : Value) (k : Str) => ∃ t, u = .str k t) hoL (each_strs sa) (each_reads sa) al so (by rw [lk]; omega) (fun b _ => ?_) fun out lo eo => ?_))
          · have d0 : (PyData.str b).depth = 0 := rfl
            have u1 : X.A.in1.units ≤ X.A.units + 1 := by simp [Around.in1, Around.units]
            rw [d0]
            omega
          · obtain ⟨c, hc4⟩ := sortedHeap_at (vs := vs3) (out := out.toArray) hoL
            have old : ∀ b o, s.heap.get? b = some o → (sortedHeap (s3.heap.push (seqObj "list" vs3.toArray 0)) s3.heap.objs.size vs3 out.toArray).get? b = some o := fun b o eb => by
              have q3 := k3 b o (k b o eb)
              have lt := Heap.lt_size q3
              rw [sortedHeap_old (Nat.ne_of_lt lt) (by rw [size_push']; exact Nat.lt_succ_of_lt lt)]
              exact Heap.get?_push_of_some _ q3
            have hp : s.heap.objs.size ≤ s3.heap.objs.size := Nat.le_trans (Nat.le_of_lt (Heap.lt_size ho)) hz3
            have hnH : H s3.heap.objs.size = none := I.hok.fresh hp
            have ev : StrsAre out (((dedupT ts).mergeSort leT).map toS) := by
              have e1 := strs_each eo
              have e2 : PySem.W.dataLe false (fun k : Str => PyData.str k) = leK := PySem.W.dataLe_str (fun k : Str => k)
              rw [e2, sort_one pk2, ← sort_toS] at e1
              exact e1
            have hv := vals_strs ev
            have hl2 : ((((dedupT ts).mergeSort leT).map toS).map V.str).length ≤ sizeLine := by
              rw [List.length_map, List.length_map, List.length_mergeSort]
              omega
            rw [sortBy_strs hy] at e
            have J : Inv X pins σ (L2.upd H s3.heap.objs.size (.lst ((((dedupT ts).mergeSort leT).map toS).map V.str))) { s3 with heap := sortedHeap (s3.heap.push (seqObj "list" vs3.toArray 0)) s3.heap.objs.size vs3 out.toArray } :=
              I.call' (ch := []) o3 (Un.laid old hp hnH) (I.hok.laid old hp ⟨hl2, out, c, hv, hc4⟩) (by show AllBare s3.gens; rw [g3]; exact I.bare) (fun _ z => nomatch z)
            exact wpAny_pure ⟨_, rfl, .ref s3.heap.objs.size, _, J, rfl, dn.lst R e (reps_strs _) hnH⟩
        · cases e
      · cases e
    · cases e
  · cases e
end
end VI

/-! VIc18: list(reversed(list)). -/
namespace VI
open PySem PySem.Spec PyProof.Rows L2
section
variable {P : Program} {w : World} {A : Around} {R : Result → Shared → Prop} {E : Value → Shared → Prop} {s : Shared} {it l : Addr} {items : Array Value}
abbrev RevAt (items : Array Value) : Nat → Value → Prop := fun i v => items[items.size - 1 - i]? = some v
theorem extend_rev (hh : A.handled = none) (hit : s.heap.IsRevIter it l ((items.size : Int) - 1)) (hl : s.heap.IsList l items) (hne : l ≠ it) (hn : items.size ≤ sizeLine) (S : Addr) (hS : S ∉ [it, l]) (c0 : Nat) (ho : s.heap.get? S = some { cls := .type "list", data := .seq #[] c0 })
    (hR : ∀ s' acc c, Moved [S, it] (fun a b => b = a) s s' → s'.heap.get? S = some { cls := .type "list", dict := none, data := .seq acc c, slots := #[] } → ItemsOf (RevAt items) acc items.size → R (.ok (.ret .none)) s') :
    wpAny (model P w) A.in1 (Builtin.List.listExtendWith (.ref S) (.ref it) .none)
      (fun fin s' => match fin with | .done f => R (.ok f) s' | .again c' => c'.quiet = true ∧ codeAny (model P w) A c' R s') (fun e s' => R (.error e) s') s := by
  have W := (Walks.listRev (prog := P) (w := w) (A := A.in1) (by simp [hh]) it l hne items).toS
  have hT : s.TypeIs (.ref it) "list_reverseiterator" := hit.typeIs
  have ne : S ≠ it := fun q => hS (by simp [q])
  have same : Builtin.List.listSameRef (.ref S) (.ref it) = false := by simp [Builtin.List.listSameRef, ne]
  unfold Builtin.List.listExtendWith
  refine wpAny_bind (wpAny_typeOf hT ?_)
  rw [if_neg (by rw [same]; decide)]
  refine wpAny_bind (wpAny_pyIter_revIter hit ?_)
  refine wpAny_bind (wpAny_holding ?_)
  unfold Builtin.List.listLengthHint
  refine wpAny_bind (wpAny_specialOf hT RT.nolen_lri ?_)
  show wpAny _ A.in1 (specialOf (Value.ref it) (Str.ofString "__length_hint__") >>= _) _ _ _
  refine wpAny_bind (wpAny_specialOf hT RT.hint_lri ?_)
  generalize hid : ("list_reverseiterator.__length_hint__" : String) = id0
  wp_delta
  rw [show splitId id0 = some ("list_reverseiterator", "__length_hint__") from by subst hid; decide +kernel]
  subst hid
  refine wpAny_bind (wpAny_isInstance (b := true) hT (by rw [isSubtype_type]; kernel_rfl) ?_)
  refine wpAny_pure ?_
  rw [if_neg (by decide)]
  have e0 : (items.size : Int) - 1 - ((0 : Nat) : Int) = (items.size : Int) - 1 := by omega
  exact wpAny_pure ⟨plainId_quiet F.plain_extend_loop _, codeAny_extend_loopS W hn S hS .none items.size 0 _ _ _ rfl (Nat.zero_le _) ⟨Nat.zero_le _, by rw [e0]; exact hit, hl⟩ ho (ItemsOf.nil _) fun s' acc c mv hs hi => hR s' acc c mv hs hi⟩
/-- list(the iterator of reversed(list)) -/
theorem list_rev {Q : Value → Shared → Prop} (hh : A.handled = none) (hit : s.heap.IsRevIter it l ((items.size : Int) - 1)) (hl : s.heap.IsList l items) (hne : l ≠ it) (hn : items.size ≤ sizeLine)
    (hQ : ∀ (h' : Heap) (tk : Nat) (acc : Array Value) (c : Nat), h'.get? s.heap.objs.size = some { cls := .type "list", dict := none, data := .seq acc c, slots := #[] } → ItemsOf (RevAt items) acc items.size → (∀ b o, b ≠ it → s.heap.get? b = some o → h'.get? b = some o) → Q (.ref s.heap.objs.size) { s with heap := h', toks := tk }) :
    wpAny (model P w) A (call (.type "list") [.ref it]) Q E s := by
  obtain ⟨oi, goi, _⟩ := id hit
  obtain ⟨ol, gol, _⟩ := id hl
  have li := Heap.lt_size goi
  have ll := Heap.lt_size gol
  refine callType_codes (Q₁ := fun obj s₁ => obj = .ref s.heap.objs.size ∧ s₁ = { s with heap := s.heap.push { cls := .type "list", data := .seq #[] } }) F.called_list (F.typeCall_list_1 _) F.entry_list_init (code_list_new _ ⟨rfl, rfl⟩) fun obj s₁ h₁ => ?_
  obtain ⟨rfl, rfl⟩ := h₁
  have gS : (s.heap.push { cls := .type "list", data := .seq #[] }).get? s.heap.objs.size = some { cls := .type "list", data := .seq #[] } := Heap.get?_push_size _ rfl
  refine ⟨⟨_, gS, rfl⟩, F.args_list_init_2 _ _, ?_⟩
  show wpAny _ A.in1.in1 (Builtin.List.listItems (.ref s.heap.objs.size) >>= fun old => Builtin.List.listUpdate (.ref s.heap.objs.size) (fun _ => #[]) >>= fun _ => letGo old.toList.reverse >>= fun _ => Builtin.List.listExtendWith (.ref s.heap.objs.size) (.ref it) .none) _ _ _
  refine wpAny_bind ?_
  unfold Builtin.List.listItems
  refine wpAny_bind (wpAny_seqItems gS rfl (wpAny_pure ?_))
  show wpAny _ A.in1.in1 (updateSeq s.heap.objs.size (fun _ => #[]) >>= fun _ => letGo (#[] : Array Value).toList.reverse >>= fun _ => Builtin.List.listExtendWith (.ref s.heap.objs.size) (.ref it) .none) _ _ _
  refine wpAny_bind (wpAny_updateSeq gS rfl ?_)
  have g2 := Heap.get?_update_self (Obj.mapSeq (fun _ => (#[] : Array Value))) gS rfl
  have oth : ∀ b o, b < s.heap.objs.size → s.heap.get? b = some o → ((s.heap.push { cls := .type "list", data := .seq #[] }).update s.heap.objs.size (Obj.mapSeq (fun _ => (#[] : Array Value)))).get? b = some o :=
    fun b o hb e => (Heap.get?_update_other _ _ (Ne.symm (Nat.ne_of_lt hb))).trans (Heap.get?_push_of_some _ e)
  refine wpAny_bind (wpAny_letGo ?_)
  have nS : s.heap.objs.size ∉ [it, l] := by
    simp only [List.mem_cons, List.not_mem_nil, or_false, not_or]
    exact ⟨Nat.ne_of_gt li, Nat.ne_of_gt ll⟩
  refine extend_rev (A := A.in1) (by simp [hh]) (hit.at fun o e => oth _ _ li e) (hl.at fun o e => oth _ _ ll e) hne hn _ nS _ g2 fun s' acc c mv hs hi => ⟨rfl, ?_⟩
  obtain ⟨h', g', d', tk', os'⟩ := s'
  obtain rfl : g' = s.gens := mv.gens
  obtain rfl : d' = s.drawn := mv.drawn
  obtain rfl : os' = s.os := mv.os
  refine hQ h' tk' acc c hs hi fun b o hb e => mv.heap b o ?_ (oth b o (Heap.lt_size e) e)
  simp only [List.mem_cons, List.not_mem_nil, or_false, not_or]
  exact ⟨Nat.ne_of_lt (Heap.lt_size e), hb⟩
end
section
variable {X : Cx} {m : Bool}
theorem hc_listRev (hu : X.calm = true) : Comp2 X (.type "list") "reversed" .listRev m := by
  intro pins s σ H vs us Q I rv ⟨Φ, Z, β, U, ds, d', U', R, q, e, dn⟩
  have sh : ∃ d, ds = [d] := by
    unfold prim at e
    split at e <;> first | exact ⟨_, rfl⟩ | simp_all
  obtain ⟨d, rfl⟩ := sh
  obtain ⟨v, rfl, r⟩ := one_rep q
  rw [prim] at e
  split at e
  · rename_i xs hx
    obtain ⟨p, ws, rfl, sq, qw⟩ := R.list hx r
    obtain ⟨its, rw1, hl, hz⟩ := I.list sq
    rw [Vals.ref1 rv]
    have hh : X.A.handled = none := I.ok.hd hu
    refine call_reversed_list hl.isList ?_
    obtain ⟨ol, gol, _⟩ := id hl.isList
    have ll : p < s.heap.objs.size := Heap.lt_size gol
    have sz1 : (s.heap.push (revObj p ((its.toArray.size : Int) - 1))).objs.size = s.heap.objs.size + 1 := Heap.size_push _ _
    refine list_rev (s := { s with heap := s.heap.push (revObj p ((its.toArray.size : Int) - 1)) }) hh ⟨_, Heap.get?_push_size _ rfl, rfl, rfl⟩ (hl.isList.push _) (Nat.ne_of_lt ll) (by rw [List.size_toArray, ← rw1.length]; exact hz) fun h' tk acc c ho hi kk => ?_
    have old : ∀ b o, s.heap.get? b = some o → h'.get? b = some o := fun b o eb => kk b o (Nat.ne_of_lt (Heap.lt_size eb)) (Heap.get?_push_of_some _ eb)
    have hp : s.heap.objs.size ≤ (s.heap.push (revObj p ((its.toArray.size : Int) - 1))).objs.size := by rw [sz1]; exact Nat.le_succ _
    have hl2 : ws.reverse.length ≤ sizeLine := by rw [List.length_reverse]; exact hz
    exact ⟨.ref _, L2.upd H _ (.lst ws.reverse), I.laid (t' := tk) old hp ⟨hl2, acc.toList, c, RT.vals_rev rw1 hi, by rw [Array.toArray_toList]; exact ho⟩, rfl, dn.lst R e qw.reverse (I.hok.fresh hp)⟩
  · cases e
end
end VI

/-! VId1: the check that ties the IR to the text; expressions. -/
namespace VI
open PySem PySem.Spec PyProof.Rows L2
/-! ### isinstance -/
section
variable {X : Cx} {C : Cal} {W : WX} {e : Expr} {a : IE} {pos p p2 : Pos}
theorem ty_of {H : Hp} {Φ : List (Addr × HO)} {Z : Hp} {β : List Addr} {U : Store} {d : D} {v : V} {t : String} (R : Rel X.prog X.w X.K X.mg Φ Z β U H) (r : RepV X.prog X.w X.K Z β d v) (h : tyN U d = some t) : TyX X.K H v (.type t) := by
  have lst : ∀ xs, asL U d = some xs → TyX X.K H v (.type "list") := fun xs hl => by
    obtain ⟨p, vs, rfl, sq, q⟩ := R.list hl r
    rcases sq with (sq | ⟨o, sq⟩) | ⟨o, its, n, h1, h2, _⟩
    · exact .base (.lst sq)
    · exact .base (.frz sq)
    · exact .kList h1 h2
  have dct : ∀ kvs, asD U d = some (0, kvs) → TyX X.K H v (.type "dict") := fun kvs hd => by
    obtain ⟨p, rfl, h⟩ := R.dict hd r
    rcases h with ⟨_, l, e, q1⟩ | ⟨h0, _⟩
    · exact .base (.dK e)
    · cases h0
  unfold tyN at h
  split at h
  · cases h; simp only [RepV] at r; subst r; exact .base .non
  · cases h; simp only [RepV] at r; subst r; exact .base (.bl _)
  · cases h; simp only [RepV] at r; subst r; exact .base (.int _)
  · cases h; simp only [RepV] at r; subst r; exact .base (.str _)
  · cases h
    obtain ⟨p, vs, rfl, sq, q⟩ := R.tuple r
    rcases sq with (sq | ⟨o, sq⟩) | ⟨o, its, n, h1, h2, _⟩
    · exact .base (.tup sq)
    · exact .fTuple sq
    · exact .kTuple h1 h2
  · cases h; exact lst _ rfl
  · split at h
    · rename_i h0
      subst h0
      cases h
      exact dct _ rfl
    · cases h
  · split at h
    · rename_i xs hu
      cases h
      exact lst xs (by simp [asL, hu])
    · rename_i t' kvs hu
      split at h
      · rename_i h0
        subst h0
        cases h
        exact dct kvs (by simp [asD, hu])
      · cases h
    · cases h
  · cases h
theorem kit_some {t c : String} (ht : t ∈ ["NoneType", "bool", "int", "str", "tuple", "list", "dict"]) (hc : c ∈ someTypes) : kitB t c = some (t == c || (t == "bool" && c == "int")) := by
  have h : (["NoneType", "bool", "int", "str", "tuple", "list", "dict"].all fun t => someTypes.all fun c => decide (kitB t c = some (t == c || (t == "bool" && c == "int")))) = true := by decide +kernel
  rw [List.all_eq_true] at h
  have h1 := h t ht
  rw [List.all_eq_true] at h1
  exact of_decide_eq_true (h1 c hc)
theorem tyN_mem {U : Store} {d : D} {t : String} (h : tyN U d = some t) : t ∈ ["NoneType", "bool", "int", "str", "tuple", "list", "dict"] := by
  unfold tyN at h
  repeat' split at h
  all_goals first
    | (cases h; simp; done)
    | cases h
theorem boot_type {c : String} (h : c ∈ someTypes) : bootBuiltins (Str.ofString c) = some (.type c) ∧ Str.ofString c ≠ "__name__" ∧ (Str.ofString c == ("__debug__" : Str)) = false := by
  simp only [someTypes, List.mem_cons, List.not_mem_nil, or_false] at h
  rcases h with rfl | rfl | rfl | rfl | rfl | rfl <;> exact ⟨by decide +kernel, by decide +kernel, by decide +kernel⟩
theorem n_isin {c : String} (hc : c ∈ someTypes) (hg : Gl X "isinstance") (hm : X.mg "isinstance" = none) (hg2 : Gl X (Str.ofString c)) (hm2 : X.mg (Str.ofString c) = none) (ht : tame e = true) (ha : PE X e (xE X C W a)) :
    PE X (.Call (.Name "isinstance" p) [e, .Name (Str.ofString c) p2] [] pos) (xE X C W (.isin a [c])) := by
  obtain ⟨b1, b2, b3⟩ := boot_type hc
  have h2 : PE X (.Name (Str.ofString c) p2) (tC (.ty c)) := pe_bltn hg2 hm2 b1 rfl b2 b3
  refine (pe_callB call_isi hg hm (by decide +kernel) (pa_cons ha (pa_cons h2 pa_nil) (star_tame ht _ _)) (by decide +kernel) (by decide +kernel) (star_tame ht _ _) rfl).imp fun σ H Q ⟨Φ, Z, β, ρ, U, r, S, R, h, o⟩ => ?_
  rw [ev] at h
  refine tE_bnd S R h o.wish fun Z1 β1 H1 d v U1 z1 b1 R1 r1 S1 h1 => ?_
  split at h1
  · rename_i k hk
    cases h1
    have hk1 : isInst1 U1 d c = some k := by
      simp only [isInst] at hk
      split at hk <;> simp_all
    unfold isInst1 at hk1
    split at hk1
    · simp only [RepV] at r1
    · split at hk1
      · rename_i t hty
        split at hk1
        · have hk2 := Option.some.inj hk1
          exact ⟨v, .ty c, .type t, .type c, k, rfl, .ty c, ty_of R1 r1 hty, kit_ty (by rw [← hk2]; exact kit_some (tyN_mem hty) hc), (o.monoE z1 b1).ok.bl R1⟩
        · cases hk1
      · cases hk1
  · cases h1
end
/-! ### the check -/
structure Ctx where
  N : List Str
  sc : Scope
  fn : Str → Bool
  fs : List String
  free : List String
  cs : List (String × D)
  ms : List (String × String)
  mks : List String
def visB (c : Ctx) (x : Str) : Bool := match c.sc.names.lookup x with
  | some .local => true
  | some .cell => true
  | some .free => true
  | _ => false
def glB (c : Ctx) (x : Str) : Bool := decide (c.sc.names.lookup x = some .globalImplicit)
def setB (c : Ctx) (i : Nat) (x : Str) : Bool := decide (c.N[i]? = some x) && (match c.sc.names.lookup x with
  | some .local => true
  | some .cell => c.fn x
  | _ => false)
def plainNm (x : Str) : Bool := !(x == ("__debug__" : Str)) && !(x == ("__classdict__" : Str))
def bltB (c : Ctx) (x : String) : Bool := glB c (Str.ofString x) && c.free.contains x
def blkCtx (c : Ctx) (scope : Scope) : Ctx := { c with sc := relS scope c.sc, fn := fun x => scope.names.lookup x == some .cell }
def ownOf (c : Ctx) (own : List Nat) : List (Str × Nat) := own.map fun i => (c.N.getD i ("" : Str), i)
/-- names that are set, one behind another -/
def okNames (c : Ctx) : List Nat → List Expr → Bool
  | [], [] => true
  | i :: is, .Name x _ :: es => setB c i x && okNames c is es
  | _, _ => false
def okTg (c : Ctx) (t : Tg) (e : Expr) : Bool :=
  match t, e with
  | .var i, .Name x _ => setB c i x
  | .tup is, .Tuple es _ _ => okNames c is es
  | .tup2 i is, .Tuple [.Name x _, .Tuple es _ _] _ _ => setB c i x && okNames c is es
  | _, _ => false
/-- a function's name, and a built-in's -/
def prName : P → Option (String × Value)
  | .len => some ("len", .builtin "len")
  | .abs => some ("abs", .builtin "abs")
  | .max2 => some ("max", .builtin "max")
  | .min2 => some ("min", .builtin "min")
  | .str1 => some ("str", .type "str")
  | .int1 => some ("int", .type "int")
  | .list1 => some ("list", .type "list")
  | .tuple1 => some ("tuple", .type "tuple")
  | .any1 => some ("any", .builtin "any")
  | .all1 => some ("all", .builtin "all")
  | .sorted1 => some ("sorted", .builtin "sorted")
  | _ => none
/-- a call within a call: their names, what they are -/
def prComp : P → Option (String × String × Value)
  | .lenSet => some ("len", "set", .builtin "len")
  | .sortedSet => some ("sorted", "set", .builtin "sorted")
  | .listRev => some ("list", "reversed", .type "list")
  | _ => none
/-- a method's name, its id -/
def prMeth : P → Option (String × String)
  | .split => some ("split", "str.split")
  | .startswith => some ("startswith", "str.startswith")
  | .find => some ("find", "str.find")
  | .append => some ("append", "list.append")
  | .join => some ("join", "str.join")
  | .reverse => some ("reverse", "list.reverse")
  | .clear => some ("clear", "list.clear")
  | .popD => some ("pop", "dict.pop")
  | _ => none
def isLit (x : Str) (s : String) : Bool := decide (x = Str.ofString s)
def plainTest : Expr → Bool
  | .UnaryOp .Not _ _ => false
  | .BoolOp _ _ _ => false
  | .IfExp _ _ _ _ => false
  | .Compare _ _ _ _ => false
  | .NamedExpr _ _ _ => false
  | _ => true
def okCst (d : D) (k : Const) : Bool :=
  match d, k with
  | .non, .none => true
  | .bl a, .bool b => decide (a = b)
  | .int i, .int j => decide (i = j)
  | .str x, .str s => decide (s = ⟨x.toArray⟩)
  | _, _ => false
/-- a walk over the keys of a dict that a name holds -/
def okKeys (c : Ctx) (it : VI.It) (e : Expr) : Bool :=
  match it, e with
  | .keys i, .Name x _ => decide (c.N[i]? = some x) && visB c x && plainNm x
  | _, _ => false
def isNon : IE → Bool
  | .cst .non => true
  | _ => false
def isYes : IE → Bool
  | .cst (.bl true) => true
  | _ => false
def noBl : D → Bool
  | .bl _ => false
  | _ => true
mutual
/-- md: as a test -/
def okE (c : Ctx) : Bool → IE → Expr → Bool
  | md, .cst d, e => (!md || (plainTest e && noBl d)) && (match e with
    | .Constant k _ _ => okCst d k
    | _ => false)
  | md, .glo x d, e => (!md || plainTest e) && (match e with
    | .Name y _ => isLit y x && glB c y && plainNm y && c.cs.contains (x, d)
    | _ => false)
  | md, .var i, e => (!md || plainTest e) && (match e with
    | .Name x _ => decide (c.N[i]? = some x) && visB c x && plainNm x
    | _ => false)
  | md, .bin op _ a b, e => (!md || plainTest e) && (match e with
    | .BinOp e1 o e2 _ => decide (o = bop op) && okE c false a e1 && okE c false b e2
    | _ => false)
  | md, .neg a, e => !md && (match e with
    | .UnaryOp .USub e1 _ => okE c false a e1
    | _ => false)
  | _, .cmp op a b, e => (match e with
    | .Compare e1 [o] [e2] _ => decide (o = cop op) && tame e2 && okE c false a e1 && okE c false b e2
    | _ => false)
  | _, .cmp2 op op' a b d, e => (match e with
    | .Compare e1 [o, o'] [e2, e3] _ => decide (o = cop op) && decide (o' = cop op') && tame e3 && okE c false a e1 && okE c false b e2 && okE c false d e3
    | _ => false)
  | md, .andE a b, e => (match e with
    | .BoolOp .And (e1 :: e2 :: es) pos => okE c md a e1 && (match es with
      | [] => okE c md b e2
      | e3 :: es => okE c md b (.BoolOp .And (e2 :: e3 :: es) pos))
    | _ => false)
  | md, .orE a b, e => (match e with
    | .BoolOp .Or (e1 :: e2 :: es) pos => okE c md a e1 && (match es with
      | [] => okE c md b e2
      | e3 :: es => okE c md b (.BoolOp .Or (e2 :: e3 :: es) pos))
    | _ => false)
  | md, .notE a, e => (match e with
    | .UnaryOp .Not e1 _ => okE c md a e1
    | _ => false)
  | md, .ite t a b, e => !md && (match e with
    | .IfExp e1 e2 e3 _ => okE c true t e1 && okE c false a e2 && okE c false b e3
    | _ => false)
  | md, .tup as, e => !md && (match e with
    | .Tuple es _ _ => decide (as.len ≤ 1000) && okEs c as es
    | _ => false)
  | md, .lst _ as, e => !md && (match e with
    | .List es _ => decide (as.len ≤ 1000) && okEs c as es
    | _ => false)
  | md, .dnil _ t, e => !md && (match e with
    | .Dict [] [] _ => decide (t = 0) || decide (t = 1)
    | _ => false)
  | md, .done _ t a b, e => !md && (match e with
    | .Dict [some e1] [e2] _ => decide (t = 1) && okE c false a e1 && okE c false b e2
    | _ => false)
  | md, .fld a f, e => (!md || plainTest e) && (match e with
    | .Attribute e1 x _ => isLit x f && FLD.contains f && noSup e1 && okE c false a e1
    | _ => false)
  | md, .meth _ cn f a as, e => (!md || plainTest e) && (match e with
    | .Call (.Attribute e1 x apos) es [] pos => isLit x f && c.ms.contains (cn, f) && !((FLD.map Str.ofString).contains (Str.ofString f)) && noSup e1 && (apos.endLine == pos.line) && es.all tame && decide (es.length < 20) && okE c false a e1 && okEs c as es
    | _ => false)
  | md, .make cn as, e => (!md || plainTest e) && (match e with
    | .Call (.Name x _) es [] _ => isLit x cn && c.mks.contains cn && glB c x && plainNm x && es.all tame && okEs c as es
    | _ => false)
  | md, .idx a b, e => (!md || plainTest e) && (match e with
    | .Subscript e1 e2 _ => tame e2 && okE c false a e1 && okE c false b e2
    | _ => false)
  | md, .slc _ a lo hi, e => (!md || plainTest e) && (match e with
    | .Subscript e1 (.Slice l h none _) _ => okE c false a e1 && (match l with
      | some l => okE c false lo l
      | none => isNon lo) && (match h with
      | some h => okE c false hi h
      | none => isNon hi)
    | _ => false)
  | md, .call _ f as, e => (!md || plainTest e) && (match e with
    | .Call (.Name x _) es [] _ => isLit x f && c.fs.contains f && glB c x && plainNm x && es.all tame && okEs c as es
    | _ => false)
  | md, .prim p _ as, e => (!md || plainTest e) && (match e with
    | .Call (.Name x _) es [] _ => (match prName p with
      | some (n, _) => isLit x n && bltB c n && es.all tame && !es.isEmpty && okEs c as es
      | none => (match prComp p, es with
        | some (n1, n2, _), [.Call (.Name y _) [e1] [] _] => isLit x n1 && bltB c n1 && isLit y n2 && bltB c n2 && tame e1 && okEs c as [e1]
        | _, _ => false))
    | .Call (.Attribute e1 x apos) es [] pos => (match prMeth p with
      | some (n, _) => isLit x n && noSup e1 && (apos.endLine == pos.line) && es.all tame && decide (es.length < 20) && okEs c as (e1 :: es)
      | none => false)
    | _ => false)
  | md, .lc _ own t it cd el, e => (!md || plainTest e) && (match e with
    | .ListComp elt [⟨tg, iter, ifs, k⟩] scope _ => decide (k = 0) && blkC c.N c.sc scope (ownOf c own) && t.slots.all (fun i => own.contains i) && tame iter && okTg (blkCtx c scope) t tg && (okKeys c it iter || okIt c it tg iter) && okE (blkCtx c scope) false el elt &&
      (match ifs with
      | [] => isYes cd
      | [e1] => okE (blkCtx c scope) true cd e1
      | _ => false)
    | _ => false)
  | md, .isin a cs, e => (!md || plainTest e) && (match e with
    | .Call (.Name x _) [e1, .Name y _] [] _ => (match cs with
      | [n] => isLit x "isinstance" && bltB c "isinstance" && isLit y n && bltB c n && someTypes.contains n && tame e1 && okE c false a e1
      | _ => false)
    | _ => false)
  | _, _, _ => false
def okEs (c : Ctx) : IEs → List Expr → Bool
  | .nil, [] => true
  | .cons a r, e :: es => tame e && okE c false a e && okEs c r es
  | _, _ => false
def okIt (c : Ctx) : VI.It → Expr → Expr → Bool
  | .seq a, _, e => okE c false a e
  | .range1 a, _, e => (match e with
    | .Call (.Name x _) [e1] [] _ => isLit x "range" && bltB c "range" && tame e1 && okE c false a e1
    | _ => false)
  | .range2 a b, _, e => (match e with
    | .Call (.Name x _) [e1, e2] [] _ => isLit x "range" && bltB c "range" && tame e1 && tame e2 && okE c false a e1 && okE c false b e2
    | _ => false)
  | .enum a k, tg, e => (match tg, e with
    | .Tuple _ _ _, .Call (.Name x _) [e1] [] _ => isLit x "enumerate" && bltB c "enumerate" && decide (k = 0) && tame e1 && okE c false a e1
    | _, _ => false)
  | _, _, _ => false
end
end VI

/-! VId1e: the check, unfolded (printed by mkeqs.py from VId1). -/
namespace VI
open PySem PySem.Spec PyProof.Rows L2
theorem okE_cst (c : Ctx) (md : Bool) (d : D) (e : Expr) : okE c md (.cst d) e = ((!md || (plainTest e && noBl d)) && (match e with
    | .Constant k _ _ => okCst d k
    | _ => false)) := rfl
theorem okE_glo (c : Ctx) (md : Bool) (x : String) (d : D) (e : Expr) : okE c md (.glo x d) e = ((!md || plainTest e) && (match e with
    | .Name y _ => isLit y x && glB c y && plainNm y && c.cs.contains (x, d)
    | _ => false)) := rfl
theorem okE_var (c : Ctx) (md : Bool) (i : Nat) (e : Expr) : okE c md (.var i) e = ((!md || plainTest e) && (match e with
    | .Name x _ => decide (c.N[i]? = some x) && visB c x && plainNm x
    | _ => false)) := rfl
theorem okE_bin (c : Ctx) (md : Bool) (op : BOp) (u0 : Bool) (a : IE) (b : IE) (e : Expr) : okE c md (.bin op u0 a b) e = ((!md || plainTest e) && (match e with
    | .BinOp e1 o e2 _ => decide (o = bop op) && okE c false a e1 && okE c false b e2
    | _ => false)) := rfl
theorem okE_neg (c : Ctx) (md : Bool) (a : IE) (e : Expr) : okE c md (.neg a) e = (!md && (match e with
    | .UnaryOp .USub e1 _ => okE c false a e1
    | _ => false)) := rfl
theorem okE_cmp (c : Ctx) (w0 : Bool) (op : COp) (a : IE) (b : IE) (e : Expr) : okE c w0 (.cmp op a b) e = ((match e with
    | .Compare e1 [o] [e2] _ => decide (o = cop op) && tame e2 && okE c false a e1 && okE c false b e2
    | _ => false)) := rfl
theorem okE_cmp2 (c : Ctx) (w0 : Bool) (op : COp) (op' : COp) (a : IE) (b : IE) (d : IE) (e : Expr) : okE c w0 (.cmp2 op op' a b d) e = ((match e with
    | .Compare e1 [o, o'] [e2, e3] _ => decide (o = cop op) && decide (o' = cop op') && tame e3 && okE c false a e1 && okE c false b e2 && okE c false d e3
    | _ => false)) := rfl
theorem okE_andE (c : Ctx) (md : Bool) (a : IE) (b : IE) (e : Expr) : okE c md (.andE a b) e = ((match e with
    | .BoolOp .And (e1 :: e2 :: es) pos => okE c md a e1 && (match es with
      | [] => okE c md b e2
      | e3 :: es => okE c md b (.BoolOp .And (e2 :: e3 :: es) pos))
    | _ => false)) := rfl
theorem okE_orE (c : Ctx) (md : Bool) (a : IE) (b : IE) (e : Expr) : okE c md (.orE a b) e = ((match e with
    | .BoolOp .Or (e1 :: e2 :: es) pos => okE c md a e1 && (match es with
      | [] => okE c md b e2
      | e3 :: es => okE c md b (.BoolOp .Or (e2 :: e3 :: es) pos))
    | _ => false)) := rfl
theorem okE_notE (c : Ctx) (md : Bool) (a : IE) (e : Expr) : okE c md (.notE a) e = ((match e with
    | .UnaryOp .Not e1 _ => okE c md a e1
    | _ => false)) := rfl
theorem okE_ite (c : Ctx) (md : Bool) (t : IE) (a : IE) (b : IE) (e : Expr) : okE c md (.ite t a b) e = (!md && (match e with
    | .IfExp e1 e2 e3 _ => okE c true t e1 && okE c false a e2 && okE c false b e3
    | _ => false)) := rfl
theorem okE_tup (c : Ctx) (md : Bool) (as : IEs) (e : Expr) : okE c md (.tup as) e = (!md && (match e with
    | .Tuple es _ _ => decide (as.len ≤ 1000) && okEs c as es
    | _ => false)) := rfl
theorem okE_lst (c : Ctx) (md : Bool) (u0 : Bool) (as : IEs) (e : Expr) : okE c md (.lst u0 as) e = (!md && (match e with
    | .List es _ => decide (as.len ≤ 1000) && okEs c as es
    | _ => false)) := rfl
theorem okE_dnil (c : Ctx) (md : Bool) (u0 : Bool) (t : Nat) (e : Expr) : okE c md (.dnil u0 t) e = (!md && (match e with
    | .Dict [] [] _ => decide (t = 0) || decide (t = 1)
    | _ => false)) := rfl
theorem okE_done (c : Ctx) (md : Bool) (u0 : Bool) (t : Nat) (a : IE) (b : IE) (e : Expr) : okE c md (.done u0 t a b) e = (!md && (match e with
    | .Dict [some e1] [e2] _ => decide (t = 1) && okE c false a e1 && okE c false b e2
    | _ => false)) := rfl
theorem okE_fld (c : Ctx) (md : Bool) (a : IE) (f : String) (e : Expr) : okE c md (.fld a f) e = ((!md || plainTest e) && (match e with
    | .Attribute e1 x _ => isLit x f && FLD.contains f && noSup e1 && okE c false a e1
    | _ => false)) := rfl
theorem okE_meth (c : Ctx) (md : Bool) (u0 : Bool) (cn : String) (f : String) (a : IE) (as : IEs) (e : Expr) : okE c md (.meth u0 cn f a as) e = ((!md || plainTest e) && (match e with
    | .Call (.Attribute e1 x apos) es [] pos => isLit x f && c.ms.contains (cn, f) && !((FLD.map Str.ofString).contains (Str.ofString f)) && noSup e1 && (apos.endLine == pos.line) && es.all tame && decide (es.length < 20) && okE c false a e1 && okEs c as es
    | _ => false)) := rfl
theorem okE_make (c : Ctx) (md : Bool) (cn : String) (as : IEs) (e : Expr) : okE c md (.make cn as) e = ((!md || plainTest e) && (match e with
    | .Call (.Name x _) es [] _ => isLit x cn && c.mks.contains cn && glB c x && plainNm x && es.all tame && okEs c as es
    | _ => false)) := rfl
theorem okE_idx (c : Ctx) (md : Bool) (a : IE) (b : IE) (e : Expr) : okE c md (.idx a b) e = ((!md || plainTest e) && (match e with
    | .Subscript e1 e2 _ => tame e2 && okE c false a e1 && okE c false b e2
    | _ => false)) := rfl
theorem okE_slc (c : Ctx) (md : Bool) (u0 : Bool) (a : IE) (lo : IE) (hi : IE) (e : Expr) : okE c md (.slc u0 a lo hi) e = ((!md || plainTest e) && (match e with
    | .Subscript e1 (.Slice l h none _) _ => okE c false a e1 && (match l with
      | some l => okE c false lo l
      | none => isNon lo) && (match h with
      | some h => okE c false hi h
      | none => isNon hi)
    | _ => false)) := rfl
theorem okE_call (c : Ctx) (md : Bool) (u0 : Bool) (f : String) (as : IEs) (e : Expr) : okE c md (.call u0 f as) e = ((!md || plainTest e) && (match e with
    | .Call (.Name x _) es [] _ => isLit x f && c.fs.contains f && glB c x && plainNm x && es.all tame && okEs c as es
    | _ => false)) := rfl
theorem okE_prim (c : Ctx) (md : Bool) (p : P) (u0 : Bool) (as : IEs) (e : Expr) : okE c md (.prim p u0 as) e = ((!md || plainTest e) && (match e with
    | .Call (.Name x _) es [] _ => (match prName p with
      | some (n, _) => isLit x n && bltB c n && es.all tame && !es.isEmpty && okEs c as es
      | none => (match prComp p, es with
        | some (n1, n2, _), [.Call (.Name y _) [e1] [] _] => isLit x n1 && bltB c n1 && isLit y n2 && bltB c n2 && tame e1 && okEs c as [e1]
        | _, _ => false))
    | .Call (.Attribute e1 x apos) es [] pos => (match prMeth p with
      | some (n, _) => isLit x n && noSup e1 && (apos.endLine == pos.line) && es.all tame && decide (es.length < 20) && okEs c as (e1 :: es)
      | none => false)
    | _ => false)) := rfl
theorem okE_lc (c : Ctx) (md : Bool) (u0 : Bool) (own : List Nat) (t : Tg) (it : VI.It) (cd : IE) (el : IE) (e : Expr) : okE c md (.lc u0 own t it cd el) e = ((!md || plainTest e) && (match e with
    | .ListComp elt [⟨tg, iter, ifs, k⟩] scope _ => decide (k = 0) && blkC c.N c.sc scope (ownOf c own) && t.slots.all (fun i => own.contains i) && tame iter && okTg (blkCtx c scope) t tg && (okKeys c it iter || okIt c it tg iter) && okE (blkCtx c scope) false el elt &&
      (match ifs with
      | [] => isYes cd
      | [e1] => okE (blkCtx c scope) true cd e1
      | _ => false)
    | _ => false)) := rfl
theorem okE_isin (c : Ctx) (md : Bool) (a : IE) (cs : List String) (e : Expr) : okE c md (.isin a cs) e = ((!md || plainTest e) && (match e with
    | .Call (.Name x _) [e1, .Name y _] [] _ => (match cs with
      | [n] => isLit x "isinstance" && bltB c "isinstance" && isLit y n && bltB c n && someTypes.contains n && tame e1 && okE c false a e1
      | _ => false)
    | _ => false)) := rfl
theorem okIt_seq (c : Ctx) (a : IE) (w1 : Expr) (e : Expr) : okIt c (.seq a) w1 e = (okE c false a e) := rfl
theorem okIt_range1 (c : Ctx) (a : IE) (w1 : Expr) (e : Expr) : okIt c (.range1 a) w1 e = ((match e with
    | .Call (.Name x _) [e1] [] _ => isLit x "range" && bltB c "range" && tame e1 && okE c false a e1
    | _ => false)) := rfl
theorem okIt_range2 (c : Ctx) (a : IE) (b : IE) (w1 : Expr) (e : Expr) : okIt c (.range2 a b) w1 e = ((match e with
    | .Call (.Name x _) [e1, e2] [] _ => isLit x "range" && bltB c "range" && tame e1 && tame e2 && okE c false a e1 && okE c false b e2
    | _ => false)) := rfl
theorem okIt_enum (c : Ctx) (a : IE) (k : Int) (tg : Expr) (e : Expr) : okIt c (.enum a k) tg e = ((match tg, e with
    | .Tuple _ _ _, .Call (.Name x _) [e1] [] _ => isLit x "enumerate" && bltB c "enumerate" && decide (k = 0) && tame e1 && okE c false a e1
    | _, _ => false)) := rfl
end VI

/-! VId2: the check is sound: expressions. -/
namespace VI
open PySem PySem.Spec PyProof.Rows L2
/-- what a context knows -/
structure Good (C : Cal) (k : Nat) (X : Cx) (c : Ctx) : Prop where
  hN : X.N = c.N
  nd : c.N.Nodup
  sc : X.env.scope = c.sc
  fn : X.fn = c.fn
  calm : X.calm = true
  room : Room k X.A
  pos : 1 ≤ k
  free : ∀ x ∈ c.free, X.mg (Str.ofString x) = none
  cs : ∀ q ∈ c.cs, ∃ u v, X.mg (Str.ofString q.1) = some u ∧ RelV v u ∧ ∀ Z β, RepV X.prog X.w X.K Z β q.2 v
  fs : ∀ f ∈ c.fs, FnHyp X.prog X.w X.K X.mg X.base C k f
  ms : ∀ q ∈ c.ms, MeHyp X.prog X.w X.K X.mg X.base C k q.1 q.2
  mks : ∀ x ∈ c.mks, ∃ j, j + 1 ≤ k ∧ MkHyp X.prog X.w X.K X.mg X.base C j x
section
variable {C : Cal} {k : Nat} {X : Cx} {c : Ctx} {W : WX}
theorem Good.units (G : Good C k X c) : X.A.units + 65 < cLine := by
  have := G.room.un
  omega
theorem Good.gl (G : Good C k X c) {x : Str} (h : glB c x = true) : Gl X x := by
  show X.env.scope.names.lookup x = _
  rw [G.sc]
  exact of_decide_eq_true h
theorem Good.vis (G : Good C k X c) {x : Str} (h : visB c x = true) : Vis X.env.scope x := by
  unfold visB at h
  unfold Vis
  rw [G.sc]
  split at h
  · exact .inl (by assumption)
  · exact .inr (.inl (by assumption))
  · exact .inr (.inr (by assumption))
  · cases h
theorem Good.set (G : Good C k X c) {i : Nat} {x : Str} (h : setB c i x = true) : Sets X i x := by
  unfold setB at h
  simp only [Bool.and_eq_true, decide_eq_true_eq] at h
  obtain ⟨h1, h2⟩ := h
  refine ⟨by rw [G.hN]; exact G.nd, by rw [G.hN]; exact h1, ?_, ?_⟩
  · unfold L2.Loc
    rw [G.sc]
    split at h2
    · exact .inl (by assumption)
    · exact .inr (by assumption)
    · cases h2
  · rw [G.sc, G.fn]
    split at h2
    · exact .inr (by assumption)
    · exact .inl h2
    · cases h2
theorem lit {x : Str} {s : String} (h : isLit x s = true) : x = Str.ofString s := of_decide_eq_true h
theorem plainNm_ok {x : Str} (h : plainNm x = true) : (x == ("__debug__" : Str)) = false ∧ (x == ("__classdict__" : Str)) = false := by
  unfold plainNm at h
  simp only [Bool.and_eq_true, Bool.not_eq_true'] at h
  exact h
theorem Good.blt (G : Good C k X c) {x : String} (h : bltB c x = true) : Gl X (Str.ofString x) ∧ X.mg (Str.ofString x) = none := by
  unfold bltB at h
  simp only [Bool.and_eq_true] at h
  exact ⟨G.gl h.1, G.free x (by simpa using h.2)⟩
theorem prName_ok {p : P} {n : String} {v : Value} (h : prName p = some (n, v)) : isMeth p = false ∧ bootBuiltins (Str.ofString n) = some v ∧ Str.ofString n ≠ "__name__" ∧ (Str.ofString n == ("__debug__" : Str)) = false ∧
    ∀ (X : Cx) (m : Bool), X.A.units + 65 < cLine → X.calm = true → CallR X v (rP X p m) := by
  unfold prName at h
  split at h
  · cases h; exact ⟨rfl, by decide +kernel, by decide +kernel, by decide +kernel, fun X m _ _ => c_len⟩
  · cases h; exact ⟨rfl, by decide +kernel, by decide +kernel, by decide +kernel, fun X m _ _ => c_abs⟩
  · cases h; exact ⟨rfl, by decide +kernel, by decide +kernel, by decide +kernel, fun X m _ hc => c_max2 hc⟩
  · cases h; exact ⟨rfl, by decide +kernel, by decide +kernel, by decide +kernel, fun X m _ hc => c_min2 hc⟩
  · cases h; exact ⟨rfl, by decide +kernel, by decide +kernel, by decide +kernel, fun X m _ _ => c_str1⟩
  · cases h; exact ⟨rfl, by decide +kernel, by decide +kernel, by decide +kernel, fun X m _ _ => c_int1⟩
  · cases h; exact ⟨rfl, by decide +kernel, by decide +kernel, by decide +kernel, fun X m _ hc => c_list1 hc⟩
  · cases h; exact ⟨rfl, by decide +kernel, by decide +kernel, by decide +kernel, fun X m _ _ => c_tuple1⟩
  · cases h; exact ⟨rfl, by decide +kernel, by decide +kernel, by decide +kernel, fun X m _ hc => c_any hc⟩
  · cases h; exact ⟨rfl, by decide +kernel, by decide +kernel, by decide +kernel, fun X m _ hc => c_all hc⟩
  · cases h; exact ⟨rfl, by decide +kernel, by decide +kernel, by decide +kernel, fun X m hu _ => c_sorted1 hu⟩
  · cases h
theorem prComp_ok {p : P} {n1 n2 : String} {f : Value} (h : prComp p = some (n1, n2, f)) : isMeth p = false ∧ ((∃ id, f = .builtin id) ∨ ∃ U, f = .type U) ∧ bootBuiltins (Str.ofString n1) = some f ∧ Str.ofString n1 ≠ "__name__" ∧ (Str.ofString n1 == ("__debug__" : Str)) = false ∧
    bootBuiltins (Str.ofString n2) = some (.type n2) ∧ Str.ofString n2 ≠ "__name__" ∧ (Str.ofString n2 == ("__debug__" : Str)) = false ∧ ∀ (X : Cx) (m : Bool), X.A.units + 65 < cLine → X.calm = true → Comp2 X f n2 p m := by
  unfold prComp at h
  split at h
  · cases h
    exact ⟨rfl, .inl ⟨_, rfl⟩, by decide +kernel, by decide, by decide, by decide +kernel, by decide, by decide, fun X m _ hc => hc_lenSet hc⟩
  · cases h
    exact ⟨rfl, .inl ⟨_, rfl⟩, by decide +kernel, by decide, by decide, by decide +kernel, by decide, by decide, fun X m hu hc => hc_sortedSet hc hu⟩
  · cases h
    exact ⟨rfl, .inr ⟨_, rfl⟩, by decide +kernel, by decide, by decide, by decide +kernel, by decide, by decide, fun X m _ hc => hc_listRev hc⟩
  · cases h
theorem prMeth_ok {p : P} {n id : String} (h : prMeth p = some (n, id)) : isMeth p = true ∧ PlainAttrs (recvT p) ∧ Slot (recvT p) (Str.ofString n) id ∧ typeOf (.builtin id) = pure (.type "method_descriptor") ∧
    ∀ (X : Cx) (m : Bool), X.A.units + 65 < cLine → X.calm = true → MtR X id (rM X p m) := by
  unfold prMeth at h
  split at h
  · cases h; exact ⟨rfl, PySem.F.plainAttrs_str, F.slot_str_split, F.type_str_split, fun X m _ _ => m_split⟩
  · cases h; exact ⟨rfl, PySem.F.plainAttrs_str, F.slot_str_startswith, F.type_str_startswith, fun X m _ _ => m_startswith⟩
  · cases h; exact ⟨rfl, PySem.F.plainAttrs_str, F.slot_str_find, F.type_str_find, fun X m _ _ => m_find⟩
  · cases h; exact ⟨rfl, PySem.F.plainAttrs_list, F.slot_list_append, F.type_list_append, fun X m _ _ => m_append⟩
  · cases h; exact ⟨rfl, PySem.F.plainAttrs_str, F.slot_str_join, F.type_str_join, fun X m _ _ => m_join⟩
  · cases h; exact ⟨rfl, PySem.F.plainAttrs_list, F.slot_list_reverse, F.type_list_reverse, fun X m _ _ => m_reverse⟩
  · cases h; exact ⟨rfl, PySem.F.plainAttrs_list, F.slot_list_clear, F.type_list_clear, fun X m _ _ => m_clear⟩
  · cases h; exact ⟨rfl, PySem.F.plainAttrs_dict, F.slot_dict_pop, F.type_dict_pop, fun X m hu _ => m_popD hu⟩
  · cases h
theorem blk_good (G : Good C k X c) (s : Shared) (H : Hp) (scope : Scope) (A : Addr) (cl : List (Str × Addr)) (fp : List Addr) : Good C k (X.blk s H scope (compEnvC scope cl A X.env) fp) (blkCtx c scope) := by
  refine ⟨G.hN, G.nd, ?_, rfl, G.calm, G.room, G.pos, G.free, G.cs, G.fs, G.ms, G.mks⟩
  show relS scope X.env.scope = relS scope c.sc
  rw [G.sc]
theorem takes_blk (s : Shared) (H : Hp) (scope : Scope) (env : Env) (fp : List Addr) : Takes (X.blk s H scope env fp) (fun _ _ _ _ => False) := fun u s' ⟨a, B, sI, pins, σ, H', cls, d, _, _, _, _, _, _, _, _, w⟩ => w
theorem names_ok (G : Good C k X c) : ∀ {is : List Nat} {es : List Expr}, okNames c is es = true → names es = true ∧ es.length = is.length ∧ PGs X es (xGs X.prog X.w X.K X.mg is)
  | [], [], _ => ⟨rfl, rfl, gs_nil⟩
  | i :: is, e :: es, h => by
    cases e with
    | Name x p =>
      simp only [okNames, Bool.and_eq_true] at h
      obtain ⟨h1, h2, h3⟩ := names_ok G h.2
      refine ⟨?_, by simp [h2], gs_cons (G.set h.1) h3⟩
      simp only [names, List.all_cons, Bool.and_eq_true]
      exact ⟨trivial, h1⟩
    | _ => cases h
  | [], _ :: _, h => by cases h
  | _ :: _, [], h => by cases h
theorem tg_ok (G : Good C k X c) {t : Tg} {e : Expr} (h : okTg c t e = true) : PG X e (xG X.prog X.w X.K X.mg t) := by
  unfold okTg at h
  split at h
  · exact g_var (G.set h)
  · obtain ⟨h1, h2, h3⟩ := names_ok G h
    exact g_tup G.calm h1 h2 h3
  · simp only [Bool.and_eq_true] at h
    obtain ⟨h1, h2, h3⟩ := names_ok G h.2
    exact g_tup2 G.calm (G.set h.1) h1 h2 h3
  · cases h
theorem plain_test {e : Expr} (h : plainTest e = true) (env : Env) : ∀ whole, PySem.isTrue e env whole = (do let v ← whole; standAt e.pos; holding [v] (truthy v)) := by
  intro whole
  cases e <;> first
    | rfl
    | (cases h; done)
    | (rename_i op _ _; cases op <;> first | rfl | cases h)
theorem own_map (c : Ctx) (own : List Nat) : (ownOf c own).map (·.2) = own := by
  unfold ownOf
  rw [List.map_map]
  exact List.map_id' own
/-- as an expression, or as a test -/
def Snd (X : Cx) (C : Cal) (W : WX) (md : Bool) (a : IE) (e : Expr) : Prop := (md = false → PE X e (xE X C W a)) ∧ (md = true → PT X e (xT X C W a))
theorem snd_of {md : Bool} {a : IE} {e : Expr} (h : (!md || plainTest e) = true) (hd : ∀ ρ U, evB C a ρ U = bnd (ev C a ρ U) fun x U1 => tru x U1) (p : PE X e (xE X C W a)) : Snd X C W md a e := by
  refine ⟨fun _ => p, fun e1 => ?_⟩
  subst e1
  exact n_test hd (plain_test (by simpa using h) X.env) p
theorem non_is {a : IE} (h : isNon a = true) : a = .cst .non := by
  unfold isNon at h
  split at h
  · rfl
  · cases h
theorem yes_is {a : IE} (h : isYes a = true) : a = .cst (.bl true) := by
  unfold isYes at h
  split at h
  · rfl
  · cases h
theorem cst_ok {d : D} {kc : Const} {j : Nat} {p : Pos} (h : okCst d kc = true) : PE X (.Constant kc j p) (xE X C W (.cst d)) := by
  unfold okCst at h
  split at h
  · exact n_cst pe_non fun Z β => by simp only [RepV]
  · have := of_decide_eq_true h
    subst this
    exact n_cst pe_bl fun Z β => by simp only [RepV]
  · have := of_decide_eq_true h
    subst this
    exact n_cst pe_int fun Z β => by simp only [RepV]
  · have := of_decide_eq_true h
    subst this
    exact n_cst pe_str fun Z β => by simp only [RepV]
  · cases h
end
mutual
theorem sE : ∀ (a : IE) {C : Cal} {k : Nat} {X : Cx} {c : Ctx} {W : WX} {md : Bool} {e : Expr}, Good C k X c → Takes X W → okE c md a e = true → Snd X C W md a e
  | .cst d, C, k, X, c, W, md, e, G, tk, h => by
    rw [okE_cst, Bool.and_eq_true] at h
    obtain ⟨h1, h2⟩ := h
    split at h2
    · refine ⟨fun _ => cst_ok h2, fun e1 => ?_⟩
      subst e1
      simp only [Bool.not_true, Bool.false_or, Bool.and_eq_true] at h1
      refine n_test (fun ρ U => ?_) (plain_test h1.1 X.env) (cst_ok h2)
      cases d <;> first | (simp only [evB]; done) | exact absurd h1.2 (by simp [noBl])
    · cases h2
  | .glo x d, C, k, X, c, W, md, e, G, tk, h => by
    rw [okE_glo, Bool.and_eq_true] at h
    obtain ⟨h1, h2⟩ := h
    split at h2
    · simp only [Bool.and_eq_true] at h2
      obtain ⟨⟨⟨l, g⟩, pn⟩, hc⟩ := h2
      have l := lit l
      subst l
      obtain ⟨u, v, hm, r, hr⟩ := G.cs (x, d) (by simpa using hc)
      exact snd_of h1 (fun ρ U => by simp only [evB]) (n_glo (pe_glob (G.gl g) hm r (plainNm_ok pn).1) hr)
    · cases h2
  | .var i, C, k, X, c, W, md, e, G, tk, h => by
    rw [okE_var, Bool.and_eq_true] at h
    obtain ⟨h1, h2⟩ := h
    split at h2
    · simp only [Bool.and_eq_true, decide_eq_true_eq] at h2
      exact snd_of h1 (fun ρ U => by simp only [evB]) (n_var (by rw [G.hN]; exact h2.1.1) (G.vis h2.1.2) (plainNm_ok h2.2).1 (plainNm_ok h2.2).2)
    · cases h2
  | .bin op m a b, C, k, X, c, W, md, e, G, tk, h => by
    rw [okE_bin, Bool.and_eq_true] at h
    obtain ⟨h1, h2⟩ := h
    split at h2
    · simp only [Bool.and_eq_true, decide_eq_true_eq] at h2
      obtain ⟨⟨rfl, h3⟩, h4⟩ := h2
      exact snd_of h1 (fun ρ U => by simp only [evB]) (n_bin op m ((sE a G tk h3).1 rfl) ((sE b G tk h4).1 rfl))
    · cases h2
  | .neg a, C, k, X, c, W, md, e, G, tk, h => by
    rw [okE_neg, Bool.and_eq_true] at h
    obtain ⟨h1, h2⟩ := h
    split at h2
    · exact ⟨fun _ => n_neg ((sE a G tk h2).1 rfl), fun e1 => by subst e1; cases h1⟩
    · cases h2
  | .cmp op a b, C, k, X, c, W, md, e, G, tk, h => by
    rw [okE_cmp] at h
    split at h
    · simp only [Bool.and_eq_true, decide_eq_true_eq] at h
      obtain ⟨⟨⟨rfl, ht⟩, h3⟩, h4⟩ := h
      exact ⟨fun _ => n_cmp G.units op ht ((sE a G tk h3).1 rfl) ((sE b G tk h4).1 rfl), fun _ => n_cmpT G.units op ht ((sE a G tk h3).1 rfl) ((sE b G tk h4).1 rfl)⟩
    · cases h
  | .cmp2 op op' a b d, C, k, X, c, W, md, e, G, tk, h => by
    rw [okE_cmp2] at h
    split at h
    · simp only [Bool.and_eq_true, decide_eq_true_eq] at h
      obtain ⟨⟨⟨⟨⟨rfl, rfl⟩, ht⟩, h3⟩, h4⟩, h5⟩ := h
      exact ⟨fun _ => n_cmp2 G.units op op' ht ((sE a G tk h3).1 rfl) ((sE b G tk h4).1 rfl) ((sE d G tk h5).1 rfl), fun _ => n_cmp2T G.units op op' ht ((sE a G tk h3).1 rfl) ((sE b G tk h4).1 rfl) ((sE d G tk h5).1 rfl)⟩
    · cases h
  | .andE a b, C, k, X, c, W, md, e, G, tk, h => by
    rw [okE_andE] at h
    split at h
    · rename_i e1 e2 es pos
      simp only [Bool.and_eq_true] at h
      obtain ⟨h3, h4⟩ := h
      have ha := sE a G tk h3
      have hb : Snd X C W md b (.BoolOp .And (e2 :: es) pos) := by
        cases es with
        | nil =>
          have q := sE b G tk h4
          exact ⟨fun z => pe_one (q.1 z), fun z => (pw_and1 (q.2 z)).pt⟩
        | cons e3 es => exact sE b G tk h4
      exact ⟨fun z => n_and (ha.1 z) (hb.1 z), fun z => n_andT (ha.2 z) (pw_of (hb.2 z))⟩
    · cases h
  | .orE a b, C, k, X, c, W, md, e, G, tk, h => by
    rw [okE_orE] at h
    split at h
    · rename_i e1 e2 es pos
      simp only [Bool.and_eq_true] at h
      obtain ⟨h3, h4⟩ := h
      have ha := sE a G tk h3
      have hb : Snd X C W md b (.BoolOp .Or (e2 :: es) pos) := by
        cases es with
        | nil =>
          have q := sE b G tk h4
          exact ⟨fun z => pe_one (q.1 z), fun z => (pw_or1 (q.2 z)).pt⟩
        | cons e3 es => exact sE b G tk h4
      exact ⟨fun z => n_or (ha.1 z) (hb.1 z), fun z => n_orT (ha.2 z) (pw_of (hb.2 z))⟩
    · cases h
  | .notE a, C, k, X, c, W, md, e, G, tk, h => by
    rw [okE_notE] at h
    split at h
    · have ha := sE a G tk h
      exact ⟨fun z => n_not (ha.1 z), fun z => n_notT (ha.2 z)⟩
    · cases h
  | .ite t a b, C, k, X, c, W, md, e, G, tk, h => by
    rw [okE_ite, Bool.and_eq_true] at h
    obtain ⟨h1, h2⟩ := h
    split at h2
    · simp only [Bool.and_eq_true] at h2
      exact ⟨fun _ => n_ite ((sE t G tk h2.1.1).2 rfl) ((sE a G tk h2.1.2).1 rfl) ((sE b G tk h2.2).1 rfl), fun e1 => by subst e1; cases h1⟩
    · cases h2
  | .tup as, C, k, X, c, W, md, e, G, tk, h => by
    rw [okE_tup, Bool.and_eq_true] at h
    obtain ⟨h1, h2⟩ := h
    split at h2
    · simp only [Bool.and_eq_true, decide_eq_true_eq] at h2
      exact ⟨fun _ => n_tup h2.1 (sEs as G tk h2.2), fun e1 => by subst e1; cases h1⟩
    · cases h2
  | .lst m as, C, k, X, c, W, md, e, G, tk, h => by
    rw [okE_lst, Bool.and_eq_true] at h
    obtain ⟨h1, h2⟩ := h
    split at h2
    · simp only [Bool.and_eq_true, decide_eq_true_eq] at h2
      exact ⟨fun _ => n_lst h2.1 (sEs as G tk h2.2), fun e1 => by subst e1; cases h1⟩
    · cases h2
  | .idx a b, C, k, X, c, W, md, e, G, tk, h => by
    rw [okE_idx, Bool.and_eq_true] at h
    obtain ⟨h1, h2⟩ := h
    split at h2
    · simp only [Bool.and_eq_true] at h2
      exact snd_of h1 (fun ρ U => by simp only [evB]) (n_idx (by have := G.units; omega) h2.1.1 ((sE a G tk h2.1.2).1 rfl) ((sE b G tk h2.2).1 rfl))
    · cases h2
  | .slc m a lo hi, C, k, X, c, W, md, e, G, tk, h => by
    rw [okE_slc, Bool.and_eq_true] at h
    obtain ⟨h1, h2⟩ := h
    split at h2
    · rename_i e1 l hh p1 p2
      simp only [Bool.and_eq_true] at h2
      obtain ⟨⟨h3, h4⟩, h5⟩ := h2
      have hl : PO X l (xO X C W lo) := by
        cases l with
        | none =>
          rw [non_is h4]
          exact n_none
        | some l => exact n_some ((sE lo G tk h4).1 rfl)
      have hh : PO X hh (xO X C W hi) := by
        cases hh with
        | none =>
          rw [non_is h5]
          exact n_none
        | some l => exact n_some ((sE hi G tk h5).1 rfl)
      exact snd_of h1 (fun ρ U => by simp only [evB]) (n_slc ((sE a G tk h3).1 rfl) hl hh)
    · cases h2
  | .call fz f as, C, k, X, c, W, md, e, G, tk, h => by
    rw [okE_call, Bool.and_eq_true] at h
    obtain ⟨h1, h2⟩ := h
    split at h2
    · rename_i x p es pos
      simp only [Bool.and_eq_true] at h2
      obtain ⟨⟨⟨⟨⟨l, hf⟩, g⟩, pn⟩, ht⟩, h3⟩ := h2
      have l := lit l
      subst l
      have F := G.fs f (by simpa using hf)
      have ha := sEs as G tk h3
      cases es with
      | nil =>
        cases as with
        | nil => exact snd_of h1 (fun ρ U => by simp only [evB]) (n_call0 tk G.room (G.gl g) F (plainNm_ok pn).1)
        | cons a r => cases h3
      | cons e es => exact snd_of h1 (fun ρ U => by simp only [evB]) (n_call tk G.room (G.gl g) F (plainNm_ok pn).1 ht ha)
    · cases h2
  | .prim p m as, C, k, X, c, W, md, e, G, tk, h => by
    rw [okE_prim, Bool.and_eq_true] at h
    obtain ⟨h1, h2⟩ := h
    split at h2
    · rename_i x p1 es pos
      split at h2
      · rename_i n v hn
        simp only [Bool.and_eq_true] at h2
        obtain ⟨⟨⟨⟨l, hb⟩, ht⟩, hne⟩, h3⟩ := h2
        have l := lit l
        subst l
        obtain ⟨q1, q2, q3, q4, q5⟩ := prName_ok hn
        obtain ⟨g1, g2⟩ := G.blt hb
        have ha := sEs as G tk h3
        cases es with
        | nil => cases hne
        | cons e es =>
          cases as with
          | nil => cases h3
          | cons a r =>
            refine snd_of h1 (fun ρ U => by simp only [evB]) ?_
            have q := q5 X m G.units G.calm
            cases v with
            | builtin id => exact n_fun q q1 g1 g2 q2 q3 q4 ht ha
            | type T => exact n_ty q q1 g1 g2 q2 q3 q4 ht ha
            | _ => exact absurd hn (by unfold prName; split <;> simp)
      · split at h2
        · rename_i n1 n2 f y p2 e1 q hn
          simp only [Bool.and_eq_true] at h2
          obtain ⟨⟨⟨⟨⟨l1, hb1⟩, l2⟩, hb2⟩, ht⟩, h3⟩ := h2
          have l1 := lit l1
          have l2 := lit l2
          subst l1 l2
          obtain ⟨q1, hf, q2, q3, q4, q5, q6, q7, q8⟩ := prComp_ok hn
          obtain ⟨g1, g2⟩ := G.blt hb1
          obtain ⟨g3, g4⟩ := G.blt hb2
          have ha := sEs as G tk h3
          cases as with
          | nil => cases h3
          | cons a r =>
            refine snd_of h1 (fun ρ U => by simp only [evB]) ?_
            exact n_comp hf (q8 X m G.units G.calm) q1 g1 g2 q2 q3 q4 g3 g4 q5 q6 q7 ht ha
        · cases h2
    · rename_i e1 x apos es pos
      split at h2
      · rename_i n id hn
        simp only [Bool.and_eq_true, decide_eq_true_eq] at h2
        obtain ⟨⟨⟨⟨⟨l, hs⟩, hl⟩, ht⟩, hlen⟩, h3⟩ := h2
        have l := lit l
        subst l
        obtain ⟨q1, q2, q3, q4, q5⟩ := prMeth_ok hn
        cases as with
        | nil => cases h3
        | cons a r =>
          simp only [okEs, Bool.and_eq_true] at h3
          have ha := (sE a G tk h3.1.2).1 rfl
          have hr := sEs r G tk h3.2
          refine snd_of h1 (fun ρ U => by simp only [evB]) ?_
          have q := q5 X m G.units G.calm
          cases es with
          | nil =>
            cases r with
            | nil => exact n_meth0 q1 q2 q3 q4 q hs hl ha
            | cons b r => exact absurd h3.2 (by simp [okEs])
          | cons e es => exact n_meth q1 q2 q3 q4 q hs hl ht hlen ha hr
      · cases h2
    · cases h2
  | .lc m own t it cd el, C, k, X, c, W, md, e, G, tk, h => by
    rw [okE_lc, Bool.and_eq_true] at h
    obtain ⟨h1, h2⟩ := h
    split at h2
    · rename_i elt tg iter ifs kk scope pos
      simp only [Bool.and_eq_true, decide_eq_true_eq] at h2
      obtain ⟨⟨⟨⟨⟨⟨⟨rfl, hb⟩, hsl⟩, ht⟩, htg⟩, hit⟩, hel⟩, hif⟩ := h2
      have ok : BlkOk X.N X.env.scope scope (ownOf c own) := by
        rw [G.hN, G.sc]
        exact blkOk_by hb
      refine snd_of h1 (fun ρ U => by simp only [evB]) ?_
      have hgB := fun (s : Shared) (H : Hp) (A : Addr) (cl : List (Str × Addr)) (fp : List Addr) => (show PG (X.blk s H scope (compEnvC scope cl A X.env) fp) tg (xG X.prog X.w X.K X.mg t) from tg_ok (blk_good G s H scope A cl fp) htg)
      have hcB := fun (s : Shared) (H : Hp) (A : Addr) (cl : List (Str × Addr)) (fp : List Addr) => (show PTs (X.blk s H scope (compEnvC scope cl A X.env) fp) ifs (tT X.prog X.w X.K X.mg C (fun _ _ _ _ => False) cd) from
        pts_xT (X := X.blk s H scope (compEnvC scope cl A X.env) fp) (by
          cases ifs with
          | nil => exact .inl ⟨rfl, yes_is hif⟩
          | cons e1 r =>
            cases r with
            | nil => exact .inr ⟨e1, rfl, (sE cd (blk_good G s H scope A cl fp) (takes_blk s H scope _ fp) hif).2 rfl⟩
            | cons _ _ => cases hif))
      have heB := fun (s : Shared) (H : Hp) (A : Addr) (cl : List (Str × Addr)) (fp : List Addr) => (show PE (X.blk s H scope (compEnvC scope cl A X.env) fp) elt (tE X.prog X.w X.K X.mg C (fun _ _ _ _ => False) el) from (sE el (blk_good G s H scope A cl fp) (takes_blk s H scope _ fp) hel).1 rfl)
      have hN : X.N.Nodup := by rw [G.hN]; exact G.nd
      have q := n_lc (X := X) (C := C) (W := W) (m := m) (it := it) (tg := tg) (elt := elt) (ifs := ifs) G.calm hN ok (fun i hi => by
        rw [own_map]
        have := List.all_eq_true.mp hsl i hi
        simpa using this) hgB hcB heB
      rw [own_map] at q
      rw [Bool.or_eq_true] at hit
      by_cases hkk : okKeys c it iter = true
      · unfold okKeys at hkk
        split at hkk
        · simp only [Bool.and_eq_true, decide_eq_true_eq] at hkk
          have p := pe_lc (X := X) G.calm hN (i_keys (C := C) (W := W) (tg := tg) (by rw [G.hN]; exact hkk.1.1) (G.vis hkk.1.2) (plainNm_ok hkk.2).1 (plainNm_ok hkk.2).2) ok hgB hcB heB (fold_tame ht X.env) (pos := pos)
          rw [own_map] at p
          exact n_lcK p q
        · cases hkk
      have hi := sI it G tk (hit.resolve_left hkk)
      have p := pe_lc (X := X) G.calm hN hi ok hgB hcB heB (fold_tame ht X.env) (pos := pos)
      rw [own_map] at p
      exact p.imp q
    · cases h2
  | .isin a cs, C, k, X, c, W, md, e, G, tk, h => by
    rw [okE_isin, Bool.and_eq_true] at h
    obtain ⟨h1, h2⟩ := h
    split at h2
    · split at h2
      · simp only [Bool.and_eq_true] at h2
        obtain ⟨⟨⟨⟨⟨⟨l1, b1⟩, l2⟩, b2⟩, hc⟩, ht⟩, h3⟩ := h2
        have l1 := lit l1
        have l2 := lit l2
        subst l1 l2
        obtain ⟨g1, g2⟩ := G.blt b1
        obtain ⟨g3, g4⟩ := G.blt b2
        exact snd_of h1 (fun ρ U => by simp only [evB]) (n_isin (by simpa using hc) g1 g2 g3 g4 ht ((sE a G tk h3).1 rfl))
      · cases h2
    · cases h2
  | .dnil m t, C, k, X, c, W, md, e, G, tk, h => by
    rw [okE_dnil, Bool.and_eq_true] at h
    obtain ⟨h1, h2⟩ := h
    split at h2
    · simp only [Bool.or_eq_true, decide_eq_true_eq] at h2
      exact ⟨fun _ => n_dnil h2, fun e1 => by subst e1; cases h1⟩
    · cases h2
  | .done m t a b, C, k, X, c, W, md, e, G, tk, h => by
    rw [okE_done, Bool.and_eq_true] at h
    obtain ⟨h1, h2⟩ := h
    split at h2
    · simp only [Bool.and_eq_true, decide_eq_true_eq] at h2
      obtain ⟨⟨rfl, h3⟩, h4⟩ := h2
      exact ⟨fun _ => n_done G.units ((sE a G tk h3).1 rfl) ((sE b G tk h4).1 rfl), fun e1 => by subst e1; cases h1⟩
    · cases h2
  | .fld a f, C, k, X, c, W, md, e, G, tk, h => by
    rw [okE_fld, Bool.and_eq_true] at h
    obtain ⟨h1, h2⟩ := h
    split at h2
    · simp only [Bool.and_eq_true] at h2
      obtain ⟨⟨⟨l, hf⟩, hs⟩, h3⟩ := h2
      have l := lit l
      subst l
      exact snd_of h1 (fun ρ U => by simp only [evB]) (n_fld hs hf ((sE a G tk h3).1 rfl))
    · cases h2
  | .meth fz cn f a as, C, k, X, c, W, md, e, G, tk, h => by
    rw [okE_meth, Bool.and_eq_true] at h
    obtain ⟨h1, h2⟩ := h
    split at h2
    · rename_i e1 x apos es pos
      simp only [Bool.and_eq_true, decide_eq_true_eq, Bool.not_eq_true'] at h2
      obtain ⟨⟨⟨⟨⟨⟨⟨⟨l, hm⟩, hno⟩, hs⟩, hl⟩, ht⟩, hlen⟩, h3⟩, h4⟩ := h2
      have l := lit l
      subst l
      have F := G.ms (cn, f) (by simpa using hm)
      have ha := (sE a G tk h3).1 rfl
      have has := sEs as G tk h4
      cases es with
      | nil =>
        cases as with
        | nil => exact snd_of h1 (fun ρ U => by simp only [evB]) (n_methI0 tk G.room F hno hs hl ha)
        | cons a r => cases h4
      | cons e es => exact snd_of h1 (fun ρ U => by simp only [evB]) (n_methI tk G.room F hno hs hl hlen ha ht has)
    · cases h2
  | .make cn as, C, k, X, c, W, md, e, G, tk, h => by
    rw [okE_make, Bool.and_eq_true] at h
    obtain ⟨h1, h2⟩ := h
    split at h2
    · rename_i x p es pos
      simp only [Bool.and_eq_true] at h2
      obtain ⟨⟨⟨⟨⟨l, hf⟩, g⟩, pn⟩, ht⟩, h3⟩ := h2
      have l := lit l
      subst l
      obtain ⟨j, hj, F⟩ := G.mks cn (by simpa using hf)
      have ha := sEs as G tk h3
      cases es with
      | nil =>
        cases as with
        | nil => exact snd_of h1 (fun ρ U => by simp only [evB]) (n_make0 tk (G.room.mono hj) (G.gl g) F (plainNm_ok pn).1)
        | cons a r => cases h3
      | cons e es => exact snd_of h1 (fun ρ U => by simp only [evB]) (n_make tk (G.room.mono hj) (G.gl g) F (plainNm_ok pn).1 ht ha)
    · cases h2
  | .repL _ _ _, C, k, X, c, W, md, e, G, tk, h => by first | (cases h; done) | (simp only [okE, okEs, okIt, Bool.and_false, Bool.false_eq_true] at h; done)
  | .sortK _ _ _ _, C, k, X, c, W, md, e, G, tk, h => by first | (cases h; done) | (simp only [okE, okEs, okIt, Bool.and_false, Bool.false_eq_true] at h; done)
  | .minK _ _ _, C, k, X, c, W, md, e, G, tk, h => by first | (cases h; done) | (simp only [okE, okEs, okIt, Bool.and_false, Bool.false_eq_true] at h; done)
theorem sEs : ∀ (as : IEs) {C : Cal} {k : Nat} {X : Cx} {c : Ctx} {W : WX} {es : List Expr}, Good C k X c → Takes X W → okEs c as es = true → PA X es (xA X C W as)
  | .nil, C, k, X, c, W, [], G, tk, h => n_nil
  | .nil, C, k, X, c, W, _ :: _, G, tk, h => by first | (cases h; done) | (simp only [okE, okEs, okIt, Bool.and_false, Bool.false_eq_true] at h; done)
  | .cons a r, C, k, X, c, W, [], G, tk, h => by first | (cases h; done) | (simp only [okE, okEs, okIt, Bool.and_false, Bool.false_eq_true] at h; done)
  | .cons a r, C, k, X, c, W, e :: es, G, tk, h => by
    rw [okEs] at h
    simp only [Bool.and_eq_true] at h
    exact n_cons h.1.1 ((sE a G tk h.1.2).1 rfl) (sEs r G tk h.2)
theorem sI : ∀ (it : VI.It) {C : Cal} {k : Nat} {X : Cx} {c : Ctx} {W : WX} {tg e : Expr}, Good C k X c → Takes X W → okIt c it tg e = true → PI X tg e (xI X C W it)
  | .seq a, C, k, X, c, W, tg, e, G, tk, h => i_seq ((sE a G tk h).1 rfl)
  | .range1 a, C, k, X, c, W, tg, e, G, tk, h => by
    rw [okIt_range1] at h
    split at h
    · simp only [Bool.and_eq_true] at h
      obtain ⟨⟨⟨l, b⟩, ht⟩, h3⟩ := h
      have l := lit l
      subst l
      obtain ⟨g1, g2⟩ := G.blt b
      exact i_range1 g1 g2 ht ((sE a G tk h3).1 rfl)
    · cases h
  | .range2 a b, C, k, X, c, W, tg, e, G, tk, h => by
    rw [okIt_range2] at h
    split at h
    · simp only [Bool.and_eq_true] at h
      obtain ⟨⟨⟨⟨⟨l, bb⟩, ht⟩, ht2⟩, h3⟩, h4⟩ := h
      have l := lit l
      subst l
      obtain ⟨g1, g2⟩ := G.blt bb
      exact i_range2 g1 g2 ht ht2 ((sE a G tk h3).1 rfl) ((sE b G tk h4).1 rfl)
    · cases h
  | .enum a k0, C, k, X, c, W, tg, e, G, tk, h => by
    rw [okIt_enum] at h
    split at h
    · simp only [Bool.and_eq_true, decide_eq_true_eq] at h
      obtain ⟨⟨⟨⟨l, bb⟩, rfl⟩, ht⟩, h3⟩ := h
      have l := lit l
      subst l
      obtain ⟨g1, g2⟩ := G.blt bb
      exact i_enum g1 g2 ht ((sE a G tk h3).1 rfl)
    · cases h
  | .range3 _ _ _, C, k, X, c, W, tg, e, G, tk, h => by first | (cases h; done) | (simp only [okE, okEs, okIt, Bool.and_false, Bool.false_eq_true] at h; done)
  | .zip _ _, C, k, X, c, W, tg, e, G, tk, h => by first | (cases h; done) | (simp only [okE, okEs, okIt, Bool.and_false, Bool.false_eq_true] at h; done)
  | .keys _, C, k, X, c, W, tg, e, G, tk, h => by first | (cases h; done) | (simp only [okE, okEs, okIt, Bool.and_false, Bool.false_eq_true] at h; done)
  | .rev _, C, k, X, c, W, tg, e, G, tk, h => by first | (cases h; done) | (simp only [okE, okEs, okIt, Bool.and_false, Bool.false_eq_true] at h; done)
end
end VI

/-! VId3: the check of statements. -/
namespace VI
open PySem PySem.Spec PyProof.Rows L2
/-- name = [..] on the name's line: stored within the block -/
def swapB (c : Ctx) (scope : Scope) (x : Str) (p q : Pos) : Bool := decide (c.sc.names.lookup x = some .local) && (p.line == q.line) && !(scope.names.any fun (n, k) => n == x && (k == .local || k == .cell))
def isDoc : Stmt → Bool
  | .Expr (.Constant (.str _) _ _) _ => true
  | _ => false
mutual
def okS (c : Ctx) : IS → Stmt → Bool
  | .asg t a, st => (match st with
    | .Assign [.Name x p] e pos => okTg c t (.Name x p) && okE c false a e && (match t with | .var _ => true | _ => false) && (match e with
      | .ListComp elt [⟨tg, iter, ifs, k⟩] scope q => decide (k = 0) && tame iter
      | e => noComp e)
    | .Assign [.Tuple es k p] e pos => okTg c t (.Tuple es k p) && okE c false a e && noTup e
    | _ => false)
  | .asgI o i a, st => (match st with
    | .Assign [.Subscript e1 e2 _] e _ => noTup e && tame e2 && okE c false a e && okE c false o e1 && okE c false i e2
    | _ => false)
  | .asgF o f a, st => (match st with
    | .Assign [.Attribute e1 x _] e _ => isLit x f && FLD.contains f && okE c false a e && okE c false o e1
    | _ => false)
  | .aug i op a, st => (match st with
    | .AugAssign (.Name x _) o e _ => decide (o = bop op) && (decide (op = .add) || decide (op = .sub)) && setB c i x && okE c false a e
    | _ => false)
  | .expr a, st => (match st with
    | .Expr e _ => noComp e && okE c false a e
    | _ => false)
  | .ret a, st => (match st with
    | .Return (some e) _ => okE c false a e
    | _ => false)
  | .retN, st => (match st with
    | .Return none _ => true
    | _ => false)
  | .ifS t a b, st => (match st with
    | .If e x y _ => okE c true t e && okSs c a x && okSs c b y
    | _ => false)
  | .forS t it b, st => (match st with
    | .For tg e x [] _ => tame e && okTg c t tg && okIt c it tg e && okSs c b x
    | _ => false)
  | .whileS t b, st => (match st with
    | .While e x [] _ => okE c true t e && okSs c b x
    | _ => false)
  | .brk, st => (match st with
    | .Break _ => true
    | _ => false)
  | .pass, st => (match st with
    | .Pass _ => true
    | _ => false)
  | .never, _ => true
  | _, _ => false
/-- docstrings are passed over -/
def okSs (c : Ctx) : ISs → List Stmt → Bool
  | .nil, sts => sts.all isDoc
  | .cons s r, sts => (match sts with
    | [] => false
    | st :: sts => if isDoc st then (match sts with
      | [] => false
      | st :: sts => okS c s st && okSs c r sts) else okS c s st && okSs c r sts)
end
end VI

/-! VId3e: the check of statements, unfolded (printed by mkeqs.py from VId3). -/
namespace VI
open PySem PySem.Spec PyProof.Rows L2
theorem okS_asg (c : Ctx) (t : Tg) (a : IE) (st : Stmt) : okS c (.asg t a) st = ((match st with
    | .Assign [.Name x p] e pos => okTg c t (.Name x p) && okE c false a e && (match t with | .var _ => true | _ => false) && (match e with
      | .ListComp elt [⟨tg, iter, ifs, k⟩] scope q => decide (k = 0) && tame iter
      | e => noComp e)
    | .Assign [.Tuple es k p] e pos => okTg c t (.Tuple es k p) && okE c false a e && noTup e
    | _ => false)) := rfl
theorem okS_asgI (c : Ctx) (o : IE) (i : IE) (a : IE) (st : Stmt) : okS c (.asgI o i a) st = ((match st with
    | .Assign [.Subscript e1 e2 _] e _ => noTup e && tame e2 && okE c false a e && okE c false o e1 && okE c false i e2
    | _ => false)) := rfl
theorem okS_asgF (c : Ctx) (o : IE) (f : String) (a : IE) (st : Stmt) : okS c (.asgF o f a) st = ((match st with
    | .Assign [.Attribute e1 x _] e _ => isLit x f && FLD.contains f && okE c false a e && okE c false o e1
    | _ => false)) := rfl
theorem okS_aug (c : Ctx) (i : Nat) (op : BOp) (a : IE) (st : Stmt) : okS c (.aug i op a) st = ((match st with
    | .AugAssign (.Name x _) o e _ => decide (o = bop op) && (decide (op = .add) || decide (op = .sub)) && setB c i x && okE c false a e
    | _ => false)) := rfl
theorem okS_expr (c : Ctx) (a : IE) (st : Stmt) : okS c (.expr a) st = ((match st with
    | .Expr e _ => noComp e && okE c false a e
    | _ => false)) := rfl
theorem okS_ret (c : Ctx) (a : IE) (st : Stmt) : okS c (.ret a) st = ((match st with
    | .Return (some e) _ => okE c false a e
    | _ => false)) := rfl
theorem okS_retN (c : Ctx) (st : Stmt) : okS c (.retN) st = ((match st with
    | .Return none _ => true
    | _ => false)) := rfl
theorem okS_ifS (c : Ctx) (t : IE) (a : ISs) (b : ISs) (st : Stmt) : okS c (.ifS t a b) st = ((match st with
    | .If e x y _ => okE c true t e && okSs c a x && okSs c b y
    | _ => false)) := rfl
theorem okS_forS (c : Ctx) (t : Tg) (it : VI.It) (b : ISs) (st : Stmt) : okS c (.forS t it b) st = ((match st with
    | .For tg e x [] _ => tame e && okTg c t tg && okIt c it tg e && okSs c b x
    | _ => false)) := rfl
theorem okS_whileS (c : Ctx) (t : IE) (b : ISs) (st : Stmt) : okS c (.whileS t b) st = ((match st with
    | .While e x [] _ => okE c true t e && okSs c b x
    | _ => false)) := rfl
theorem okS_brk (c : Ctx) (st : Stmt) : okS c (.brk) st = ((match st with
    | .Break _ => true
    | _ => false)) := rfl
theorem okS_pass (c : Ctx) (st : Stmt) : okS c (.pass) st = ((match st with
    | .Pass _ => true
    | _ => false)) := rfl
theorem okS_never (c : Ctx) (w1 : Stmt) : okS c (.never) w1 = (true) := rfl
end VI

/-! VId4: the check is sound: statements, defs. -/
namespace VI
open PySem PySem.Spec PyProof.Rows L2
section
variable {C : Cal} {k : Nat} {X : Cx} {c : Ctx} {W : WX}
/-- name = [..] -/
theorem swaps_lc (hk : X.env.scope.kind = .function) (hsc : X.env.scope = c.sc) {elt : Expr} {gs : List Comprehension} {scope : Scope} {q p : Pos} {x : Str} {l : Nat} : swapsWith (.ListComp elt gs scope q) (some (.Name x p)) l X.env = pure (swapB c scope x p q) := by
  unfold swapsWith swapB Env.blockKind Env.kindOf
  rw [hk, hsc]
  simp only [Expr.pos]
  have e : (ScopeKind.function.isAnnotationScope) = false := rfl
  simp only [e]
  have e2 : ((c.sc.names.lookup x == some NameKind.local) = decide (c.sc.names.lookup x = some NameKind.local)) := by
    rw [Bool.beq_eq_decide_eq]
  rw [← e2]
  simp
/-- a comprehension's parts -/
theorem lc_parts {m : Bool} {own : List Nat} {t : Tg} {it : VI.It} {cd el : IE} {elt tg iter : Expr} {ifs : List Expr} {kk : Int} {scope : Scope} {pos : Pos} (G : Good C k X c) (tk : Takes X W) (h : okE c false (.lc m own t it cd el) (.ListComp elt [⟨tg, iter, ifs, kk⟩] scope pos) = true) :
    kk = 0 ∧ tame iter = true ∧ (okKeys c it iter = true ∨ okIt c it tg iter = true) ∧ BlkOk X.N X.env.scope scope (ownOf c own) ∧
    (∀ (s : Shared) (H : Hp) (A : Addr) (cl : List (Str × Addr)) (fp : List Addr), PG (X.blk s H scope (compEnvC scope cl A X.env) fp) tg (xG X.prog X.w X.K X.mg t)) ∧
    (∀ (s : Shared) (H : Hp) (A : Addr) (cl : List (Str × Addr)) (fp : List Addr), PTs (X.blk s H scope (compEnvC scope cl A X.env) fp) ifs (tT X.prog X.w X.K X.mg C (fun _ _ _ _ => False) cd)) ∧
    (∀ (s : Shared) (H : Hp) (A : Addr) (cl : List (Str × Addr)) (fp : List Addr), PE (X.blk s H scope (compEnvC scope cl A X.env) fp) elt (tE X.prog X.w X.K X.mg C (fun _ _ _ _ => False) el)) ∧
    ∀ σ H Q, xE X C W (.lc m own t it cd el) σ H Q → tLc (xI X C W it) (xG X.prog X.w X.K X.mg t) (tT X.prog X.w X.K X.mg C (fun _ _ _ _ => False) cd) (tE X.prog X.w X.K X.mg C (fun _ _ _ _ => False) el) own σ H Q := by
  rw [okE_lc, Bool.and_eq_true] at h
  obtain ⟨h1, h2⟩ := h
  simp only [Bool.and_eq_true, decide_eq_true_eq] at h2
  obtain ⟨⟨⟨⟨⟨⟨⟨rfl, hb⟩, hsl⟩, ht⟩, htg⟩, hit⟩, hel⟩, hif⟩ := h2
  rw [Bool.or_eq_true] at hit
  have ok : BlkOk X.N X.env.scope scope (ownOf c own) := by
    rw [G.hN, G.sc]
    exact blkOk_by hb
  have hgB := fun (s : Shared) (H : Hp) (A : Addr) (cl : List (Str × Addr)) (fp : List Addr) => (show PG (X.blk s H scope (compEnvC scope cl A X.env) fp) tg (xG X.prog X.w X.K X.mg t) from tg_ok (blk_good G s H scope A cl fp) htg)
  have hcB := fun (s : Shared) (H : Hp) (A : Addr) (cl : List (Str × Addr)) (fp : List Addr) => (show PTs (X.blk s H scope (compEnvC scope cl A X.env) fp) ifs (tT X.prog X.w X.K X.mg C (fun _ _ _ _ => False) cd) from
    pts_xT (X := X.blk s H scope (compEnvC scope cl A X.env) fp) (by
      cases ifs with
      | nil => exact .inl ⟨rfl, yes_is hif⟩
      | cons e1 r =>
        cases r with
        | nil => exact .inr ⟨e1, rfl, (sE cd (blk_good G s H scope A cl fp) (takes_blk s H scope _ fp) hif).2 rfl⟩
        | cons _ _ => cases hif))
  have heB := fun (s : Shared) (H : Hp) (A : Addr) (cl : List (Str × Addr)) (fp : List Addr) => (show PE (X.blk s H scope (compEnvC scope cl A X.env) fp) elt (tE X.prog X.w X.K X.mg C (fun _ _ _ _ => False) el) from (sE el (blk_good G s H scope A cl fp) (takes_blk s H scope _ fp) hel).1 rfl)
  have hN : X.N.Nodup := by rw [G.hN]; exact G.nd
  have q := n_lc (X := X) (C := C) (W := W) (m := m) (it := it) (tg := tg) (elt := elt) (ifs := ifs) G.calm hN ok (fun i hi => by
    rw [own_map]
    have := List.all_eq_true.mp hsl i hi
    simpa using this) hgB hcB heB
  refine ⟨rfl, ht, hit, ok, hgB, hcB, heB, ?_⟩
  rw [own_map] at q
  exact q
/-- an assignment to a name, by the expression's end -/
theorem asg_end {a : IE} {i : Nat} {E : Ends} {σ : L2.St} {H : Hp} (q : xS X C W (.asg (.var i) a) E σ H) : xE X C W a σ H (fun x H1 => gName i x σ H1 E.nx) := by
  obtain ⟨Φ, Z, β, ρ, U, r, S, R, h, o⟩ := q
  rw [exec] at h
  refine tE_bndS S R h o fun Z1 β1 H1 d v U1 z1 b1 R1 r1 S1 h1 o1 => ?_
  simp only [asgT] at h1
  cases h1
  exact o1 Z1 β1 H1 _ (ZLe.refl _) (BLe.refl _) R1 (S1.set r1)
theorem s_setC {a : IE} {i : Nat} {x : Str} {p pos q : Pos} {elt tg iter : Expr} {ifs : List Expr} {scope : Scope} (hk : X.env.scope.kind = .function) (G : Good C k X c) (tk : Takes X W) (hx : setB c i x = true) (h : okE c false a (.ListComp elt [⟨tg, iter, ifs, 0⟩] scope q) = true) :
    PS X (.Assign [.Name x p] (.ListComp elt [⟨tg, iter, ifs, 0⟩] scope q) pos) (xS X C W (.asg (.var i) a)) := by
  have hs := G.set hx
  have ha := (sE a G tk h).1 rfl
  by_cases sw : swapB c scope x p q = true
  · cases a with
    | lc m own t it cd el =>
      obtain ⟨_, ht, hit, ok, hgB, hcB, heB, im⟩ := lc_parts G tk h
      have hl : X.env.scope.names.lookup x = some .local := by
        unfold swapB at sw
        simp only [Bool.and_eq_true, decide_eq_true_eq] at sw
        rw [G.sc]
        exact sw.1.1
      have hsw : swapsWith (.ListComp elt [⟨tg, iter, ifs, 0⟩] scope q) (some (.Name x p)) pos.line X.env = pure true := by
        rw [swaps_lc hk G.sc, sw]
      rcases hit with hkk | hit
      · unfold okKeys at hkk
        split at hkk
        · simp only [Bool.and_eq_true, decide_eq_true_eq] at hkk
          have p0 := ps_setLc (X := X) G.calm hs.nd hs.at_ hl hsw (i_keys (C := C) (W := W) (tg := tg) (by rw [G.hN]; exact hkk.1.1) (G.vis hkk.1.2) (plainNm_ok hkk.2).1 (plainNm_ok hkk.2).2) ok hgB hcB heB (fold_tame ht X.env)
          rw [own_map] at p0
          exact (s_setK p0 im).imp fun E σ H q => asg_end q
        · cases hkk
      · have p0 := ps_setLc (X := X) G.calm hs.nd hs.at_ hl hsw (sI it G tk hit) ok hgB hcB heB (fold_tame ht X.env)
        rw [own_map] at p0
        exact p0.imp fun E σ H q => im σ H _ (asg_end q)
    | _ => exact absurd h (by simp [okE])
  · refine (ps_set hs.nd hs.at_ hs.loc ha ?_ hs.fn).imp fun E σ H q => asg_end q
    rw [swaps_lc hk G.sc]
    simp only [Bool.not_eq_true] at sw
    rw [sw]
end
theorem docs_ok {X : Cx} {C : Cal} {W : WX} : ∀ {sts : List Stmt}, sts.all isDoc = true → PSs X sts (xSs X C W .nil)
  | [], _ => s_nil
  | st :: sts, h => by
    simp only [List.all_cons, Bool.and_eq_true] at h
    have ih := docs_ok (X := X) (C := C) (W := W) h.2
    unfold isDoc at h
    split at h
    · exact s_doc ih
    · cases h.1
mutual
theorem sS : ∀ (s : IS) {C : Cal} {k : Nat} {X : Cx} {c : Ctx} {W : WX} {st : Stmt}, Good C k X c → Takes X W → X.env.scope.kind = .function → PassesOwn (model X.prog X.w) X.A X.env X.xe → okS c s st = true → PS X st (xS X C W s)
  | .asg t a, C, k, X, c, W, st, G, tk, hk, hp, h => by
    rw [okS_asg] at h
    split at h
    · rename_i x p e pos
      simp only [Bool.and_eq_true] at h
      obtain ⟨⟨⟨h1, h2⟩, h3⟩, h4⟩ := h
      cases t with
      | var i =>
        have hx : setB c i x = true := h1
        split at h4
        · simp only [Bool.and_eq_true, decide_eq_true_eq] at h4
          obtain ⟨rfl, ht⟩ := h4
          exact s_setC hk G tk hx h2
        · exact s_set (G.set hx) h4 ((sE a G tk h2).1 rfl)
      | _ => cases h3
    · rename_i es kk p e pos
      simp only [Bool.and_eq_true] at h
      obtain ⟨⟨h1, h2⟩, h3⟩ := h
      exact s_asgT h3 ((sE a G tk h2).1 rfl) (tg_ok G h1)
    · cases h
  | .aug i op a, C, k, X, c, W, st, G, tk, hk, hp, h => by
    rw [okS_aug] at h
    split at h
    · simp only [Bool.and_eq_true, Bool.or_eq_true, decide_eq_true_eq] at h
      obtain ⟨⟨⟨rfl, ho⟩, hx⟩, h3⟩ := h
      exact s_aug ho (G.set hx) ((sE a G tk h3).1 rfl)
    · cases h
  | .expr a, C, k, X, c, W, st, G, tk, hk, hp, h => by
    rw [okS_expr] at h
    split at h
    · simp only [Bool.and_eq_true] at h
      exact s_expr h.1 ((sE a G tk h.2).1 rfl)
    · cases h
  | .ret a, C, k, X, c, W, st, G, tk, hk, hp, h => by
    rw [okS_ret] at h
    split at h
    · exact s_ret ((sE a G tk h).1 rfl)
    · cases h
  | .retN, C, k, X, c, W, st, G, tk, hk, hp, h => by
    rw [okS_retN] at h
    split at h
    · exact s_retN
    · cases h
  | .ifS t a b, C, k, X, c, W, st, G, tk, hk, hp, h => by
    rw [okS_ifS] at h
    split at h
    · simp only [Bool.and_eq_true] at h
      exact s_if ((sE t G tk h.1.1).2 rfl) (sSs a G tk hk hp h.1.2) (sSs b G tk hk hp h.2)
    · cases h
  | .forS t it b, C, k, X, c, W, st, G, tk, hk, hp, h => by
    rw [okS_forS] at h
    split at h
    · simp only [Bool.and_eq_true] at h
      exact s_for hp G.calm h.1.1.1 (sI it G tk h.1.2) (tg_ok G h.1.1.2) (sSs b G tk hk hp h.2)
    · cases h
  | .whileS t b, C, k, X, c, W, st, G, tk, hk, hp, h => by
    rw [okS_whileS] at h
    split at h
    · simp only [Bool.and_eq_true] at h
      exact s_while hp ((sE t G tk h.1).2 rfl) (sSs b G tk hk hp h.2)
    · cases h
  | .brk, C, k, X, c, W, st, G, tk, hk, hp, h => by
    rw [okS_brk] at h
    split at h
    · exact s_brk
    · cases h
  | .pass, C, k, X, c, W, st, G, tk, hk, hp, h => by
    rw [okS_pass] at h
    split at h
    · exact s_pass
    · cases h
  | .asgI o i a, C, k, X, c, W, st, G, tk, hk, hp, h => by
    rw [okS_asgI] at h
    split at h
    · simp only [Bool.and_eq_true] at h
      obtain ⟨⟨⟨⟨h1, h2⟩, h3⟩, h4⟩, h5⟩ := h
      exact s_asgI (by have := G.units; omega) h1 ((sE a G tk h3).1 rfl) ((sE o G tk h4).1 rfl) ((sE i G tk h5).1 rfl) h2
    · cases h
  | .asgF o f a, C, k, X, c, W, st, G, tk, hk, hp, h => by
    rw [okS_asgF] at h
    split at h
    · rename_i e1 x p e pos
      simp only [Bool.and_eq_true] at h
      obtain ⟨⟨⟨l, hf⟩, h3⟩, h4⟩ := h
      have l := lit l
      subst l
      exact s_asgF hf (by cases e <;> rfl) ((sE o G tk h4).1 rfl) ((sE a G tk h3).1 rfl)
    · cases h
  | .asgIV _ _ _ _, C, k, X, c, W, st, G, tk, hk, hp, h => by first | (cases h; done) | (simp only [okS, Bool.false_eq_true] at h; done)
  | .raise _ _ _, C, k, X, c, W, st, G, tk, hk, hp, h => by first | (cases h; done) | (simp only [okS, Bool.false_eq_true] at h; done)
  | .tryS _ _ _ _, C, k, X, c, W, st, G, tk, hk, hp, h => by first | (cases h; done) | (simp only [okS, Bool.false_eq_true] at h; done)
  | .never, C, k, X, c, W, st, G, tk, hk, hp, h => ⟨fun pins s σ H D I ⟨Φ, Z, β, ρ, U, r, S, R, h, o⟩ => by
    rw [exec] at h
    cases h⟩
theorem sSs : ∀ (s : ISs) {C : Cal} {k : Nat} {X : Cx} {c : Ctx} {W : WX} {sts : List Stmt}, Good C k X c → Takes X W → X.env.scope.kind = .function → PassesOwn (model X.prog X.w) X.A X.env X.xe → okSs c s sts = true → PSs X sts (xSs X C W s)
  | .nil, C, k, X, c, W, sts, G, tk, hk, hp, h => docs_ok h
  | .cons s r, C, k, X, c, W, sts, G, tk, hk, hp, h => by
    cases sts with
    | nil => cases h
    | cons st sts =>
      unfold okSs at h
      dsimp only at h
      split at h
      · rename_i hd
        cases sts with
        | nil => cases h
        | cons st2 sts =>
          simp only [Bool.and_eq_true] at h
          have q := s_cons (sS s G tk hk hp h.1) (sSs r G tk hk hp h.2)
          unfold isDoc at hd
          split at hd
          · exact s_doc q
          · cases hd
      · simp only [Bool.and_eq_true] at h
        exact s_cons (sS s G tk hk hp h.1) (sSs r G tk hk hp h.2)
end
/-! ### defs -/
structure Entry where
  name : String
  N : List Str
  ps : List Str
  fn : Fn
  qual : Str
  params : Arguments
  body : List Stmt
  scope : Scope
  cm : Option (String × String) := none
def fnScopeB (N ps : List Str) (sc : Scope) : Bool := decide (sc.kind = .function) && (!sc.isCoroutine && (!sc.isGenerator && (decide N.Nodup && (decide (N.take ps.length = ps) && (ps.all (fun x => decide (sc.names.lookup x = some .local) || decide (sc.names.lookup x = some .cell)) && sc.names.all fun y => decide (y.2 ≠ .free))))))
theorem fnScope_ok {N ps : List Str} {sc : Scope} (h : fnScopeB N ps sc = true) : FnScope N ps sc := by
  unfold fnScopeB at h
  simp only [Bool.and_eq_true, decide_eq_true_eq, Bool.not_eq_true', List.all_eq_true, Bool.or_eq_true] at h
  obtain ⟨h1, h2, h3, h4, h5, h6, h7⟩ := h
  exact ⟨h1, h2, h3, h4, h5, h6, h7⟩
def ctxOf (fs free : List String) (cs : List (String × D)) (ms : List (String × String)) (mks : List String) (e : Entry) : Ctx := { N := e.N, sc := e.scope, fn := fun _ => true, fs := fs, free := free, cs := cs, ms := ms, mks := mks }
def entryOk (fs free : List String) (cs : List (String × D)) (ms : List (String × String)) (mks : List String) (e : Entry) : Bool := decide (e.fn.np = e.ps.length) && (decide (e.fn.ns = e.N.length) && (fnScopeB e.N e.ps e.scope && okSs (ctxOf fs free cs ms mks e) e.fn.body e.body))
/-- what is known of the module -/
structure Known (P : Program) (w : World) (K : PySem.W.Frag) (mg : Str → Option Value) (free : List String) (cs : List (String × D)) : Prop where
  free : ∀ x ∈ free, mg (Str.ofString x) = none
  cs : ∀ q ∈ cs, ∃ u v, mg (Str.ofString q.1) = some u ∧ RelV v u ∧ ∀ Z β, RepV P w K Z β q.2 v
/-- where a def stands: a global, a class's __init__, a method -/
def Place (K : PySem.W.Frag) (mg : Str → Option Value) (a : Addr) (e : Entry) : Prop := match e.cm with
  | none => mg (Str.ofString e.name) = some (.ref a) ∧ PySem.W.keepIn K (.ref a) = true
  | some (c, m) => ∃ Ca, mg (Str.ofString c) = some (.ref Ca) ∧ ClsF K Ca ∧ if m = "__init__" then Mk K Ca a else Meth K Ca (Str.ofString m) a
/-- a def stands -/
def Stands (K : PySem.W.Frag) (mg : Str → Option Value) (e : Entry) : Prop := ∃ (a : Addr) (fd : FuncData) (x : Str), Place K mg a e ∧ FunD K x e.qual e.params e.body e.scope [] [] a fd ∧ Binds K fd e.ps []
/-- all that may be called -/
structure Hyps (P : Program) (w : World) (K : PySem.W.Frag) (mg : Str → Option Value) (base : Heap) (C : Cal) (k : Nat) (fs : List String) (ms : List (String × String)) (mks : List String) : Prop where
  fs : ∀ f ∈ fs, FnHyp P w K mg base C k f
  ms : ∀ q ∈ ms, MeHyp P w K mg base C k q.1 q.2
  mks : ∀ c ∈ mks, MkHyp P w K mg base C k c
/-- where they stand in the table -/
structure Tabs (Γ : Tab) (es : List Entry) (fs : List String) (ms : List (String × String)) (mks : List String) : Prop where
  fs : ∀ f ∈ fs, ∃ e ∈ es, e.cm = none ∧ e.name = f ∧ Γ f = some e.fn
  ms : ∀ q ∈ ms, ∃ e ∈ es, e.cm = some q ∧ q.2 ≠ "__init__" ∧ e.name = q.1 ++ "." ++ q.2 ∧ Γ e.name = some e.fn
  mks : ∀ c ∈ mks, ∃ e ∈ es, e.cm = some (c, "__init__") ∧ e.name = c ++ ".__init__" ∧ Γ e.name = some e.fn
theorem start_rep {P : Program} {w : World} {K : PySem.W.Frag} {Z : Hp} {β : List Addr} {fn : Fn} {N : List Str} {ds : List D} {vs : List V} (hn : fn.ns = N.length) (hp : ds.length = fn.np) (q : RepL P w K Z β ds vs) : RepS P w K Z β (startR fn ds) (L2.start N vs) := by
  unfold startR L2.start
  have hl := q.length
  refine ⟨by simp [hl, hn, ← hp], fun i d e => ?_⟩
  by_cases hi : i < ds.length
  · rw [List.getElem?_append_left (by simpa using hi), List.getElem?_map, Option.map_eq_some_iff] at e
    obtain ⟨d', e1, e2⟩ := e
    cases e2
    obtain ⟨v, e3, r⟩ := q.get e1
    refine ⟨v, ?_, r⟩
    rw [List.getElem?_append_left (by simp; omega), List.getElem?_map, e3]
    rfl
  · rw [List.getElem?_append_right (by simpa using Nat.le_of_not_lt hi), List.getElem?_replicate] at e
    split at e <;> cases e
theorem FnHyp.up {P : Program} {w : World} {K : PySem.W.Frag} {mg : Str → Option Value} {base : Heap} {C : Cal} {k : Nat} {f : String} (h : FnHyp P w K mg base C k f) : FnHyp P w K mg base C (k + 1) f := by
  obtain ⟨a, fd, ps, h1, h2, F, h3⟩ := h
  exact ⟨a, fd, ps, h1, h2, F.mono (Nat.le_succ k), h3⟩
theorem MeHyp.up {P : Program} {w : World} {K : PySem.W.Frag} {mg : Str → Option Value} {base : Heap} {C : Cal} {k : Nat} {c f : String} (h : MeHyp P w K mg base C k c f) : MeHyp P w K mg base C (k + 1) c f := by
  obtain ⟨Ca, a, fd, ps, h1, h2, h4, F, h3⟩ := h
  exact ⟨Ca, a, fd, ps, h1, h2, h4, F.mono (Nat.le_succ k), h3⟩
/-- one def, one call deeper -/
theorem entry_ok {P : Program} {w : World} {K : PySem.W.Frag} {mg : Str → Option Value} {base : Heap} {Γ : Tab} {fs free : List String} {cs : List (String × D)} {ms : List (String × String)} {mks : List String} {e : Entry} {j k : Nat} {a : Addr} {fd : FuncData} {x : Str} (kn : Known P w K mg free cs) (ho : entryOk fs free cs ms mks e = true) (hΓ : Γ e.name = some e.fn)
    (F : FunD K x e.qual e.params e.body e.scope [] [] a fd) (ih : Hyps P w K mg base (run Γ j) k fs ms mks) : FnOk P w K mg base (L2.CX P w) (k + 2) a fd e.ps (spV P w K mg (run Γ (j + 1)) e.name) := by
  unfold entryOk at ho
  simp only [Bool.and_eq_true, decide_eq_true_eq] at ho
  obtain ⟨h1, h2, h3, h4⟩ := ho
  have S := fnScope_ok h3
  have len : ∀ vs H Q E, spV P w K mg (run Γ (j + 1)) e.name vs H Q E → vs.length = e.ps.length := fun vs H Q E q => by
    obtain ⟨Φ, Z, β, U, ds, r, R, q, h, _⟩ := q
    rw [run, hΓ] at h
    simp only at h
    split at h
    · rename_i hd
      rw [← q.length, hd, h1]
    · cases h
  refine F.ok S len fun cdv A outer s H vs Q E hr q => ?_
  obtain ⟨Φ, Z, β, U, ds, r, R, q, h, o⟩ := q
  rw [run, hΓ] at h
  simp only at h
  split at h
  · rename_i hd
    have G : Good (run Γ j) (k + 1) (cxOf (L2.CX P w) P w K mg base e.N e.qual e.scope a cdv A outer s H E) (ctxOf fs free cs ms mks e) :=
      ⟨rfl, S.nd, rfl, rfl, rfl, hr, Nat.succ_pos k, kn.free, kn.cs, fun f hf => (ih.fs f hf).up, fun q hq => (ih.ms q hq).up, fun c hc => ⟨k, Nat.le_refl _, ih.mks c hc⟩⟩
    have tk : Takes (cxOf (L2.CX P w) P w K mg base e.N e.qual e.scope a cdv A outer s H E) (fun cls d _ H => E cls d H) := takes_of rfl rfl rfl rfl
    refine ⟨_, sSs e.fn.body G tk S.kind (passes_of rfl) h4, ?_⟩
    cases hx : execs (run Γ j) e.fn.body (startR e.fn ds) U with
    | none => rw [hx] at h; cases h
    | some rs =>
      rw [hx] at h
      refine ⟨Φ, Z, β, startR e.fn ds, U, rs, start_rep h2 hd q, R, hx, ?_⟩
      cases rs with
      | nx ρ U' =>
        cases h
        exact fun Z' β' H' σ' z b R' _ => o Z' β' H' .non z b R' (by simp only [RepV])
      | rt d U' => cases h; exact o
      | bk ρ U' => cases h
      | ex x ρ U' =>
        cases h
        exact fun Z' β' σ' z b _ => DoneX.mono o z b
  · cases h
theorem no_fn {P : Program} {w : World} {K : PySem.W.Frag} {mg : Str → Option Value} {base : Heap} {Γ : Tab} {k : Nat} {a : Addr} {fd : FuncData} {ps : List Str} {f : String} : FnOk P w K mg base (L2.CX P w) k a fd ps (spV P w K mg (run Γ 0) f) :=
by
  refine ⟨fun vs H Q E q => ?_, fun A outer s H args us vs Q E hr e0 hb' r q => ?_⟩
  · obtain ⟨Φ, Z, β, U, ds, r, R, q, h, _⟩ := q
    cases h
  · obtain ⟨Φ, Z, β, U, ds, r, R, q, h, _⟩ := q
    cases h
theorem fns_ok {P : Program} {w : World} {K : PySem.W.Frag} {mg : Str → Option Value} {base : Heap} {Γ : Tab} {fs free : List String} {cs : List (String × D)} {ms : List (String × String)} {mks : List String} {es : List Entry} (kn : Known P w K mg free cs) (ok : ∀ e ∈ es, entryOk fs free cs ms mks e = true) (st : ∀ e ∈ es, Stands K mg e) (tab : Tabs Γ es fs ms mks) :
    ∀ (j : Nat), Hyps P w K mg base (run Γ j) (2 * j + 1) fs ms mks
  | 0 => by
    refine ⟨fun f hf => ?_, fun q hq => ?_, fun c hc => ?_⟩
    · obtain ⟨e, he, hc, rfl, hΓ⟩ := tab.fs f hf
      obtain ⟨a, fd, x, pl, F, hb⟩ := st e he
      unfold Place at pl
      rw [hc] at pl
      exact ⟨a, fd, e.ps, pl.1, pl.2, no_fn, hb⟩
    · obtain ⟨e, he, hc, hne, hn, hΓ⟩ := tab.ms q hq
      obtain ⟨a, fd, x, pl, F, hb⟩ := st e he
      unfold Place at pl
      rw [hc] at pl
      obtain ⟨Ca, hm, hcl, hp⟩ := pl
      rw [if_neg hne] at hp
      exact ⟨Ca, a, fd, e.ps, hm, hcl.1, hp, no_fn, hb⟩
    · obtain ⟨e, he, hc, hn, hΓ⟩ := tab.mks c hc
      obtain ⟨a, fd, x, pl, F, hb⟩ := st e he
      unfold Place at pl
      rw [hc] at pl
      obtain ⟨Ca, hm, hcl, hp⟩ := pl
      rw [if_pos rfl] at hp
      exact ⟨Ca, a, fd, e.ps, hm, hcl, hp, no_fn, hb⟩
  | j + 1 => by
    have ih := fns_ok (base := base) kn ok st tab j
    refine ⟨fun f hf => ?_, fun q hq => ?_, fun c hc => ?_⟩
    · obtain ⟨e, he, hc, rfl, hΓ⟩ := tab.fs f hf
      obtain ⟨a, fd, x, pl, F, hb⟩ := st e he
      unfold Place at pl
      rw [hc] at pl
      exact ⟨a, fd, e.ps, pl.1, pl.2, entry_ok kn (ok e he) hΓ F ih, hb⟩
    · obtain ⟨e, he, hc, hne, hn, hΓ⟩ := tab.ms q hq
      obtain ⟨a, fd, x, pl, F, hb⟩ := st e he
      unfold Place at pl
      rw [hc] at pl
      obtain ⟨Ca, hm, hcl, hp⟩ := pl
      rw [if_neg hne] at hp
      have q := entry_ok (base := base) kn (ok e he) hΓ F ih
      rw [hn] at q
      exact ⟨Ca, a, fd, e.ps, hm, hcl.1, hp, q, hb⟩
    · obtain ⟨e, he, hc, hn, hΓ⟩ := tab.mks c hc
      obtain ⟨a, fd, x, pl, F, hb⟩ := st e he
      unfold Place at pl
      rw [hc] at pl
      obtain ⟨Ca, hm, hcl, hp⟩ := pl
      rw [if_pos rfl] at hp
      have q := entry_ok (base := base) kn (ok e he) hΓ F ih
      rw [hn] at q
      exact ⟨Ca, a, fd, e.ps, hm, hcl, hp, q, hb⟩
end VI

/-! VIe1: from the evaluator to a law's row. -/
namespace VI
open PySem PySem.Spec PyProof.Rows L2
/-! ### constants of the module -/
mutual
def datB (K : PySem.W.Frag) : D → Value → Bool
  | .non, u => (match u with | .none => true | _ => false)
  | .bl b, u => (match u with | .bool c => decide (b = c) | _ => false)
  | .int i, u => (match u with | .int j _ => decide (i = j) | _ => false)
  | .str x, u => (match u with | .str s _ => decide (s = ⟨x.toArray⟩) | _ => false)
  | .tup xs, u => (match u with
    | .ref a => (match K.lookup a with
      | some ⟨.type c, _, .seq its _, _⟩ => decide (c = "tuple") && (decide (its.size ≤ sizeLine) && datBL K xs its.toList)
      | _ => false)
    | _ => false)
  | .lst xs, u => (match u with
    | .ref a => (match K.lookup a with
      | some ⟨.type c, none, .seq its _, _⟩ => decide (c = "list") && (decide (its.size ≤ sizeLine) && datBL K xs its.toList)
      | _ => false)
    | _ => false)
  | _, _ => false
def datBL (K : PySem.W.Frag) : List D → List Value → Bool
  | [], us => us.isEmpty
  | x :: r, us => (match us with
    | u :: s => datB K x u && datBL K r s
    | [] => false)
end
mutual
theorem datB_ok {K : PySem.W.Frag} : ∀ {d : D} {u : Value}, datB K d u = true → ∃ v, RelV v u ∧ ∀ (P : Program) (w : World) (Z : Hp) (β : List Addr), RepV P w K Z β d v
  | .non, u, h => by
    cases u <;> first
      | exact ⟨.non, rfl, fun P w Z β => by simp only [RepV]⟩
      | (simp only [datB, Bool.false_eq_true] at h; done)
  | .bl b, u, h => by
    cases u <;> first
      | (simp only [datB, decide_eq_true_eq] at h
         subst h
         exact ⟨.bl b, rfl, fun P w Z β => by simp only [RepV]⟩
         done)
      | (simp only [datB, Bool.false_eq_true] at h; done)
  | .int i, u, h => by
    cases u <;> first
      | (simp only [datB, decide_eq_true_eq] at h
         subst h
         exact ⟨.int i, ⟨_, rfl⟩, fun P w Z β => by simp only [RepV]⟩
         done)
      | (simp only [datB, Bool.false_eq_true] at h; done)
  | .str x, u, h => by
    cases u <;> first
      | (simp only [datB, decide_eq_true_eq] at h
         subst h
         exact ⟨.str _, ⟨_, rfl⟩, fun P w Z β => by simp only [RepV]⟩
         done)
      | (simp only [datB, Bool.false_eq_true] at h; done)
  | .tup xs, u, h => by
    cases u with
    | ref a =>
      simp only [datB] at h
      split at h
      · rename_i c od its n sl e
        simp only [Bool.and_eq_true, decide_eq_true_eq] at h
        obtain ⟨rfl, hz, h⟩ := h
        obtain ⟨vs, rv, rp⟩ := datBL_ok h
        refine ⟨.ref a, rfl, fun P w Z β => ?_⟩
        simp only [RepV]
        exact ⟨a, vs, rfl, .inr ⟨_, its, n, e, rfl, rfl, hz, rv⟩, rp P w Z β⟩
      · cases h
    | _ => simp only [datB, Bool.false_eq_true] at h
  | .lst xs, u, h => by
    cases u with
    | ref a =>
      simp only [datB] at h
      split at h
      · rename_i c its n sl e
        simp only [Bool.and_eq_true, decide_eq_true_eq] at h
        obtain ⟨rfl, hz, h⟩ := h
        obtain ⟨vs, rv, rp⟩ := datBL_ok h
        refine ⟨.ref a, rfl, fun P w Z β => ?_⟩
        simp only [RepV]
        exact ⟨a, vs, rfl, .inr ⟨_, its, n, e, rfl, rfl, rfl, hz, rv⟩, rp P w Z β⟩
      · cases h
    | _ => simp only [datB, Bool.false_eq_true] at h
  | .dct _ _, u, h => by cases u <;> simp only [datB, Bool.false_eq_true] at h
  | .ref _, u, h => by cases u <;> simp only [datB, Bool.false_eq_true] at h
  | .exn _ _, u, h => by cases u <;> simp only [datB, Bool.false_eq_true] at h
theorem datBL_ok {K : PySem.W.Frag} : ∀ {ds : List D} {us : List Value}, datBL K ds us = true → ∃ vs, Vals vs us ∧ ∀ (P : Program) (w : World) (Z : Hp) (β : List Addr), RepL P w K Z β ds vs
  | [], us, h => by
    cases us with
    | nil => exact ⟨[], .nil, fun P w Z β => RepL.nil⟩
    | cons u s => cases h
  | x :: r, us, h => by
    cases us with
    | nil => simp only [datBL, Bool.false_eq_true] at h
    | cons u s =>
      simp only [datBL, Bool.and_eq_true] at h
      obtain ⟨v, r1, p1⟩ := datB_ok h.1
      obtain ⟨vs, r2, p2⟩ := datBL_ok h.2
      exact ⟨v :: vs, .cons r1 r2, fun P w Z β => RepL.cons (p1 P w Z β) (p2 P w Z β)⟩
end
/-- what is asked of the module -/
def exB (free : List String) (cs : List (String × D)) (K : PySem.W.Frag) : Bool := (free.all fun x => He.eqO (PySem.W.nsIn K mainGlobals (Str.ofString x)) (some none)) && cs.all fun q => match PySem.W.nsIn K mainGlobals (Str.ofString q.1) with
  | some (some u) => datB K q.2 u
  | _ => false
theorem known_of {P : Program} {w : World} {K : PySem.W.Frag} {mg : Str → Option Value} {h : Heap} {free : List String} {cs : List (String × D)} (X : K.In h) (G : h.Ns mainGlobals mg) (c : exB free cs K = true) : Known P w K mg free cs := by
  unfold exB at c
  simp only [Bool.and_eq_true, List.all_eq_true] at c
  refine ⟨fun x hx => PySem.W.mg_none_of X G (He.eqO_ok (c.1 x hx)), fun q hq => ?_⟩
  have h2 := c.2 q hq
  split at h2
  · rename_i u e
    obtain ⟨v, r, p⟩ := datB_ok h2
    exact ⟨u, v, PySem.W.mg_of X G e, r, fun Z β => p P w Z β⟩
  · cases h2
def atOf (e : Entry) : Str × Option Str := match e.cm with
  | none => (Str.ofString e.name, none)
  | some (c, m) => (Str.ofString c, some (Str.ofString m))
def dname (e : Entry) : Str := match e.cm with
  | none => Str.ofString e.name
  | some (_, m) => Str.ofString m
def defD (e : Entry) : He.DefD := ⟨atOf e, dname e, e.qual, e.params, e.body, e.scope, [], []⟩
def fasOf (e : Entry) : List He.Fa := match e.cm with
  | none => [.glo (Str.ofString e.name)]
  | some (c, m) => [.glo (Str.ofString c), .cls (Str.ofString c), if m = "__init__" then .mkr (Str.ofString c) else .meth (Str.ofString c) (Str.ofString m)] ++ FLD.map fun f => .noat (Str.ofString c) (Str.ofString f)
def faOf (es : List Entry) : List He.Fa := es.flatMap fasOf
def fnsOf (es : List Entry) : List He.DefD := es.map defD
/-- arguments are bound -/
def BindOk (e : Entry) : Prop := ∀ (kV doc pm : Value) (an : Option Addr) (cdv ct : Value) (us : List Value), us.length = e.ps.length → bindArgs (PySem.W.fnOf (dname e) e.qual e.params e.body e.scope .none kV doc pm an cdv ct) ⟨us, []⟩ = pure (e.ps.zip us)
theorem stands_of {K : PySem.W.Frag} {mg : Str → Option Value} {h : Heap} {es : List Entry} {e : Entry} (X : K.In h) (G : h.Ns mainGlobals mg) (c : He.SaysD (faOf es) (fnsOf es) K) (he : e ∈ es) (hb : BindOk e) :
    ∃ (a : Addr) (fd : FuncData) (x : Str), Place K mg a e ∧ FunD K x e.qual e.params e.body e.scope [] [] a fd ∧ Binds K fd e.ps [] ∧ ∀ (s : Shared) (us : List Value), us.length = e.ps.length → BindsTo s fd ⟨us, []⟩ (e.ps.zip us) := by
  have fa : ∀ f ∈ fasOf e, f.ok K = true := fun f hf => c.facts (List.mem_flatMap.mpr ⟨e, he, hf⟩)
  obtain ⟨fd, F⟩ := c.defs (d := defD e) (List.mem_map.mpr ⟨e, he, rfl⟩)
  refine ⟨He.fAd K (atOf e), fd, _, ?_, F, F.bindsN hb, fun s us hl => FunD.bindsA F hb s us hl⟩
  unfold Place
  unfold fasOf at fa
  have kp := F.kp
  show match e.cm with
    | none => _
    | some (c, m) => _
  cases hc : e.cm with
  | none =>
    rw [hc] at fa
    have ea : atOf e = (Str.ofString e.name, none) := by unfold atOf; rw [hc]
    have h1 := He.glo_ok X G (fa (.glo (Str.ofString e.name)) (by simp))
    have kp2 : PySem.W.keepIn K (.ref (He.fAd K (atOf e))) = true := F.kp
    rw [ea] at kp2 ⊢
    exact ⟨h1, kp2⟩
  | some q =>
    obtain ⟨cn, m⟩ := q
    rw [hc] at fa
    have ea : atOf e = (Str.ofString cn, some (Str.ofString m)) := by unfold atOf; rw [hc]
    rw [ea]
    have h1 := He.glo_ok X G (fa (.glo (Str.ofString cn)) (by simp))
    have h2 := He.cls_ok (fa (.cls (Str.ofString cn)) (by simp))
    refine ⟨_, h1, ⟨h2, fun f hf => He.noat_ok (fa (.noat (Str.ofString cn) (Str.ofString f)) (List.mem_append_right _ (List.mem_map.mpr ⟨f, hf, rfl⟩)))⟩, ?_⟩
    by_cases hm : m = "__init__"
    · rw [if_pos hm]
      subst hm
      exact He.mkr_ok (fa (.mkr (Str.ofString cn)) (by simp))
    · rw [if_neg hm]
      exact He.meth_ok (fa (.meth (Str.ofString cn) (Str.ofString m)) (by simp [hm]))
abbrev lawHook (n : Nat) (es : List Entry) (free : List String) (cs : List (String × D)) : PySem.W.Hook := He.hookX n (faOf es) (fnsOf es) [] [] (exB free cs)
/-- a law keeps its row where the evaluator says so -/
theorem law_V {l : PySem.W.OpenLaw} {n g j : Nat} {q : Program} {loose : List Str} {XP : (Str → Option Value) → Heap → Prop} {d : DefRec} {es : List Entry} {fs free : List String} {cs : List (String × D)} {ms : List (String × String)} {mks : List String} {Γ : Tab} {el : Entry} {x : Str}
    (hn : l.most = some n) (hn2 : n ≤ sizeLine) (hdf : d.params.defaults = []) (hdn : d.name = Str.ofString el.name) (hr : Room (2 * j + 3) callerA) (hcm : el.cm = none)
    (ok : ∀ e ∈ es, entryOk fs free cs ms mks e = true) (bind : ∀ e ∈ es, BindOk e) (tab : Tabs Γ es fs ms mks) (hel : el ∈ es) (hΓ : Γ el.name = some el.fn) (hps : el.ps = [x])
    (plain : ∀ ns : List Int, ns.length ≤ n → (∀ z ∈ ns, Builtin.Int.intBits z ≤ 1048576) → ∃ U', run Γ (j + 1) el.name [.lst (ns.map .int)] [] = some (.ok (.bl true) U')) :
    PySem.W.WalkO q loose XP (lawHook g es free cs).says l.row.toRowW d [] (fun f vs => PySem.call f vs) := by
  refine Att.attach_callB hn hdf fun w s₀ s₁ mg mb fa o pm cd doc a vs ns G Y ho hd hcd hmg hobj hints hlen hbits hg => ?_
  obtain ⟨K, KX, c⟩ := Y
  have kn : Known l.prog w K mg free cs := known_of KX G.T.g c.more
  have st : ∀ e ∈ es, Stands K mg e := fun e he => by
    obtain ⟨a, fd, x, h1, h3, h4, _⟩ := stands_of KX G.T.g c.t.d he (bind e he)
    exact ⟨a, fd, x, h1, h3, h4⟩
  obtain ⟨al, fd, x', pl, F, h4, h5⟩ := stands_of KX G.T.g c.t.d hel (bind el hel)
  unfold Place at pl
  rw [hcm] at pl
  obtain ⟨h1, h2⟩ := pl
  have e : al = fa := by
    rw [hdn, h1] at hmg
    injection hmg with e
    injection e
  subst e
  have hF : ∀ base : Heap, K.In base → base.Ns mainGlobals mg → FnOk l.prog w K mg base (L2.CX l.prog w) (2 * j + 3) al fd [x] (spV l.prog w K mg (run Γ (j + 1)) el.name) := fun base _ _ => by
    have q := entry_ok (base := base) kn (ok el hel) hΓ F (fns_ok (base := base) kn ok st tab j)
    rw [hps] at q
    exact q
  refine law_call KX G.T.g G.T.b G.T.builtins G.T.nolimit hg hobj hints (Nat.le_trans hlen hn2) hr hF (fun s u => by
    have := h5 s [u] (by rw [hps]; rfl)
    rw [hps] at this
    exact this) (fun H hO hS => ?_) fun H e s' hc => ?_
  · obtain ⟨U', hp⟩ := plain ns hlen hbits
    refine ⟨[], H, [], [], [.lst (ns.map .int)], _, ⟨ZLe.refl H, rfl, List.nodup_nil, by simp, by simp, by simp⟩, RepL.cons ?_ RepL.nil, hp, fun Z' β' H' v z b R r => ?_⟩
    · simp only [RepV]
      exact ⟨a, _, rfl, hS, RepL.ints ns⟩
    · simpa only [RepV] using r
  · obtain ⟨_, _, _, _, _, _, _, _, _, _, _, _, z⟩ := hc
    exact z
end VI

namespace LK
open VI PySem PySem.Spec PyProof.Rows L2
def inCls (s : Stmt) (j : Nat) : Stmt := match s with
  | .ClassDef _ _ _ body _ _ _ _ _ _ _ => body.getD j (.Pass ⟨0, 0, 0, 0⟩)
  | s => s
def top (i : Nat) : Stmt := PySem.Challenge.pw_quoteweave_k21_needs_of_one.main.body.getD i (.Pass ⟨0, 0, 0, 0⟩)
def e_Web___init__ : VI.Entry := ⟨"Web.__init__", ["self", "edges", "starts", "goal", "start", "one", "other"], ["self", "edges", "starts", "goal"], fn_Web___init__, "Web.__init__", defArgs (inCls (top 2) 0), defBody (inCls (top 2) 0), defScope (inCls (top 2) 0), some ("Web", "__init__")⟩
def e_Web_lead : VI.Entry := ⟨"Web.lead", ["self", "here", "there", "knot"], ["self", "here", "there"], fn_Web_lead, "Web.lead", defArgs (inCls (top 2) 1), defBody (inCls (top 2) 1), defScope (inCls (top 2) 1), some ("Web", "lead")⟩
def e_Web_steps : VI.Entry := ⟨"Web.steps", ["self", "here", "found", "there"], ["self", "here"], fn_Web_steps, "Web.steps", defArgs (inCls (top 2) 2), defBody (inCls (top 2) 2), defScope (inCls (top 2) 2), some ("Web", "steps")⟩
def e_Web_reach : VI.Entry := ⟨"Web.reach", ["self", "came", "todo", "at", "there"], ["self"], fn_Web_reach, "Web.reach", defArgs (inCls (top 2) 3), defBody (inCls (top 2) 3), defScope (inCls (top 2) 3), some ("Web", "reach")⟩
def e_Web_turn : VI.Entry := ⟨"Web.turn", ["self", "came", "there", "here"], ["self", "came"], fn_Web_turn, "Web.turn", defArgs (inCls (top 2) 4), defBody (inCls (top 2) 4), defScope (inCls (top 2) 4), some ("Web", "turn")⟩
def e_Web_behind : VI.Entry := ⟨"Web.behind", ["self", "here", "there"], ["self", "here"], fn_Web_behind, "Web.behind", defArgs (inCls (top 2) 5), defBody (inCls (top 2) 5), defScope (inCls (top 2) 5), some ("Web", "behind")⟩
def e_Web_chains : VI.Entry := ⟨"Web.chains", ["self", "found", "first", "chain", "here"], ["self"], fn_Web_chains, "Web.chains", defArgs (inCls (top 2) 6), defBody (inCls (top 2) 6), defScope (inCls (top 2) 6), some ("Web", "chains")⟩
def e_woven : VI.Entry := ⟨"woven", ["edges", "starts", "goal", "most", "web", "many", "came"], ["edges", "starts", "goal", "most"], fn_woven, "woven", defArgs (top 3), defBody (top 3), defScope (top 3), none⟩
def e_apart_up_to : VI.Entry := ⟨"apart_up_to", ["edges", "starts", "goal", "most"], ["edges", "starts", "goal", "most"], fn_apart_up_to, "apart_up_to", defArgs (top 4), defBody (top 4), defScope (top 4), none⟩
def e_apart_chains : VI.Entry := ⟨"apart_chains", ["edges", "starts", "goal", "web", "came", "cut", "knot"], ["edges", "starts", "goal"], fn_apart_chains, "apart_chains", defArgs (top 5), defBody (top 5), defScope (top 5), none⟩
def e_edges_within : VI.Entry := ⟨"edges_within", ["edges", "held", "goal", "edge"], ["edges", "held", "goal"], fn_edges_within, "edges_within", defArgs (top 7), defBody (top 7), defScope (top 7), none⟩
def e_near_ones : VI.Entry := ⟨"near_ones", ["edges", "held", "goal", "one", "other"], ["edges", "held", "goal"], fn_near_ones, "near_ones", defArgs (top 8), defBody (top 8), defScope (top 8), none⟩
def e_ground_by : VI.Entry := ⟨"ground_by", ["edges", "seers", "needs", "ground", "person", "number", "held", "chains", "grown", "cuts"], ["edges", "seers", "needs"], fn_ground_by, "ground_by", defArgs (top 9), defBody (top 9), defScope (top 9), none⟩
def e__law_cell : VI.Entry := ⟨"_law_cell", ["script", "k"], ["script", "k"], fn__law_cell, "_law_cell", defArgs (top 11), defBody (top 11), defScope (top 11), none⟩
def e__law_mixed : VI.Entry := ⟨"_law_mixed", ["cell", "k", "m"], ["cell", "k"], fn__law_mixed, "_law_mixed", defArgs (top 12), defBody (top 12), defScope (top 12), none⟩
def e__law_names : VI.Entry := ⟨"_law_names", ["cell", "many", "m", "base", "some", "k", "size", "at", "out", "signs", "place"], ["cell", "many"], fn__law_names, "_law_names", defArgs (top 13), defBody (top 13), defScope (top 13), none⟩
def e__law_fold : VI.Entry := ⟨"_law_fold", ["script", "number", "cell"], ["script"], fn__law_fold, "_law_fold", defArgs (top 14), defBody (top 14), defScope (top 14), none⟩
def e__law_web : VI.Entry := ⟨"_law_web", ["script", "most", "seed", "m", "names", "edges", "k", "cell", "j", "n", "one", "other", "starts", "name"], ["script", "most"], fn__law_web, "_law_web", defArgs (top 15), defBody (top 15), defScope (top 15), none⟩
def e__law_needs : VI.Entry := ⟨"_law_needs", ["script", "names", "seed", "m", "needs", "k", "name", "n", "cut"], ["script", "names"], fn__law_needs, "_law_needs", defArgs (top 16), defBody (top 16), defScope (top 16), none⟩
def e_law : VI.Entry := ⟨"law", ["script", "names", "edges", "starts", "goal", "seers", "needs", "name", "number", "ground", "cuts", "come", "turn", "one", "other", "row"], ["script"], fn_law, "law", defArgs (top 17), defBody (top 17), defScope (top 17), none⟩
def es : List VI.Entry := [e_Web___init__, e_Web_lead, e_Web_steps, e_Web_reach, e_Web_turn, e_Web_behind, e_Web_chains, e_woven, e_apart_up_to, e_apart_chains, e_edges_within, e_near_ones, e_ground_by, e__law_cell, e__law_mixed, e__law_names, e__law_fold, e__law_web, e__law_needs, e_law]
def fs : List String := ["woven", "apart_up_to", "apart_chains", "edges_within", "near_ones", "ground_by", "_law_cell", "_law_mixed", "_law_names", "_law_fold", "_law_web", "_law_needs", "law"]
def ms : List (String × String) := [("Web", "lead"), ("Web", "steps"), ("Web", "reach"), ("Web", "turn"), ("Web", "behind"), ("Web", "chains")]
def mks : List String := ["Web"]
def free : List String := ["len", "range", "list", "enumerate", "sorted", "set"]
def cs : List (String × D) := [("SOURCE", (.tup [(.str [115, 111, 117, 114, 99, 101]), (.str [])]))]
theorem ok_Web___init__ : entryOk fs free cs ms mks e_Web___init__ = true := by decide +kernel
theorem b_Web___init__ : BindOk e_Web___init__ := fun _ _ _ _ _ _ us hl => match us, hl with
  | [_, _, _, _], _ => rfl
theorem ok_Web_lead : entryOk fs free cs ms mks e_Web_lead = true := by decide +kernel
theorem b_Web_lead : BindOk e_Web_lead := fun _ _ _ _ _ _ us hl => match us, hl with
  | [_, _, _], _ => rfl
theorem ok_Web_steps : entryOk fs free cs ms mks e_Web_steps = true := by decide +kernel
theorem b_Web_steps : BindOk e_Web_steps := fun _ _ _ _ _ _ us hl => match us, hl with
  | [_, _], _ => rfl
theorem ok_Web_reach : entryOk fs free cs ms mks e_Web_reach = true := by decide +kernel
theorem b_Web_reach : BindOk e_Web_reach := fun _ _ _ _ _ _ us hl => match us, hl with
  | [_], _ => rfl
theorem ok_Web_turn : entryOk fs free cs ms mks e_Web_turn = true := by decide +kernel
theorem b_Web_turn : BindOk e_Web_turn := fun _ _ _ _ _ _ us hl => match us, hl with
  | [_, _], _ => rfl
theorem ok_Web_behind : entryOk fs free cs ms mks e_Web_behind = true := by decide +kernel
theorem b_Web_behind : BindOk e_Web_behind := fun _ _ _ _ _ _ us hl => match us, hl with
  | [_, _], _ => rfl
theorem ok_Web_chains : entryOk fs free cs ms mks e_Web_chains = true := by decide +kernel
theorem b_Web_chains : BindOk e_Web_chains := fun _ _ _ _ _ _ us hl => match us, hl with
  | [_], _ => rfl
theorem ok_woven : entryOk fs free cs ms mks e_woven = true := by decide +kernel
theorem b_woven : BindOk e_woven := fun _ _ _ _ _ _ us hl => match us, hl with
  | [_, _, _, _], _ => rfl
theorem ok_apart_up_to : entryOk fs free cs ms mks e_apart_up_to = true := by decide +kernel
theorem b_apart_up_to : BindOk e_apart_up_to := fun _ _ _ _ _ _ us hl => match us, hl with
  | [_, _, _, _], _ => rfl
theorem ok_apart_chains : entryOk fs free cs ms mks e_apart_chains = true := by decide +kernel
theorem b_apart_chains : BindOk e_apart_chains := fun _ _ _ _ _ _ us hl => match us, hl with
  | [_, _, _], _ => rfl
theorem ok_edges_within : entryOk fs free cs ms mks e_edges_within = true := by decide +kernel
theorem b_edges_within : BindOk e_edges_within := fun _ _ _ _ _ _ us hl => match us, hl with
  | [_, _, _], _ => rfl
theorem ok_near_ones : entryOk fs free cs ms mks e_near_ones = true := by decide +kernel
theorem b_near_ones : BindOk e_near_ones := fun _ _ _ _ _ _ us hl => match us, hl with
  | [_, _, _], _ => rfl
theorem ok_ground_by : entryOk fs free cs ms mks e_ground_by = true := by decide +kernel
theorem b_ground_by : BindOk e_ground_by := fun _ _ _ _ _ _ us hl => match us, hl with
  | [_, _, _], _ => rfl
theorem ok__law_cell : entryOk fs free cs ms mks e__law_cell = true := by decide +kernel
theorem b__law_cell : BindOk e__law_cell := fun _ _ _ _ _ _ us hl => match us, hl with
  | [_, _], _ => rfl
theorem ok__law_mixed : entryOk fs free cs ms mks e__law_mixed = true := by decide +kernel
theorem b__law_mixed : BindOk e__law_mixed := fun _ _ _ _ _ _ us hl => match us, hl with
  | [_, _], _ => rfl
theorem ok__law_names : entryOk fs free cs ms mks e__law_names = true := by decide +kernel
theorem b__law_names : BindOk e__law_names := fun _ _ _ _ _ _ us hl => match us, hl with
  | [_, _], _ => rfl
theorem ok__law_fold : entryOk fs free cs ms mks e__law_fold = true := by decide +kernel
theorem b__law_fold : BindOk e__law_fold := fun _ _ _ _ _ _ us hl => match us, hl with
  | [_], _ => rfl
theorem ok__law_web : entryOk fs free cs ms mks e__law_web = true := by decide +kernel
theorem b__law_web : BindOk e__law_web := fun _ _ _ _ _ _ us hl => match us, hl with
  | [_, _], _ => rfl
theorem ok__law_needs : entryOk fs free cs ms mks e__law_needs = true := by decide +kernel
theorem b__law_needs : BindOk e__law_needs := fun _ _ _ _ _ _ us hl => match us, hl with
  | [_, _], _ => rfl
theorem ok_law : entryOk fs free cs ms mks e_law = true := by decide +kernel
theorem b_law : BindOk e_law := fun _ _ _ _ _ _ us hl => match us, hl with
  | [_], _ => rfl
theorem oks : ∀ e ∈ es, entryOk fs free cs ms mks e = true := by
  intro e he
  simp only [es, List.mem_cons, List.not_mem_nil, or_false] at he
  rcases he with rfl | rfl | rfl | rfl | rfl | rfl | rfl | rfl | rfl | rfl | rfl | rfl | rfl | rfl | rfl | rfl | rfl | rfl | rfl | rfl
  · exact ok_Web___init__
  · exact ok_Web_lead
  · exact ok_Web_steps
  · exact ok_Web_reach
  · exact ok_Web_turn
  · exact ok_Web_behind
  · exact ok_Web_chains
  · exact ok_woven
  · exact ok_apart_up_to
  · exact ok_apart_chains
  · exact ok_edges_within
  · exact ok_near_ones
  · exact ok_ground_by
  · exact ok__law_cell
  · exact ok__law_mixed
  · exact ok__law_names
  · exact ok__law_fold
  · exact ok__law_web
  · exact ok__law_needs
  · exact ok_law
theorem binds : ∀ e ∈ es, BindOk e := by
  intro e he
  simp only [es, List.mem_cons, List.not_mem_nil, or_false] at he
  rcases he with rfl | rfl | rfl | rfl | rfl | rfl | rfl | rfl | rfl | rfl | rfl | rfl | rfl | rfl | rfl | rfl | rfl | rfl | rfl | rfl
  · exact b_Web___init__
  · exact b_Web_lead
  · exact b_Web_steps
  · exact b_Web_reach
  · exact b_Web_turn
  · exact b_Web_behind
  · exact b_Web_chains
  · exact b_woven
  · exact b_apart_up_to
  · exact b_apart_chains
  · exact b_edges_within
  · exact b_near_ones
  · exact b_ground_by
  · exact b__law_cell
  · exact b__law_mixed
  · exact b__law_names
  · exact b__law_fold
  · exact b__law_web
  · exact b__law_needs
  · exact b_law
theorem tabs : Tabs tab es fs ms mks := by
  refine ⟨fun f hf => ?_, fun q hq => ?_, fun c hc => ?_⟩
  · simp only [fs, List.mem_cons, List.not_mem_nil, or_false] at hf
    rcases hf with rfl | rfl | rfl | rfl | rfl | rfl | rfl | rfl | rfl | rfl | rfl | rfl | rfl
    · exact ⟨e_woven, by simp [es], rfl, rfl, rfl⟩
    · exact ⟨e_apart_up_to, by simp [es], rfl, rfl, rfl⟩
    · exact ⟨e_apart_chains, by simp [es], rfl, rfl, rfl⟩
    · exact ⟨e_edges_within, by simp [es], rfl, rfl, rfl⟩
    · exact ⟨e_near_ones, by simp [es], rfl, rfl, rfl⟩
    · exact ⟨e_ground_by, by simp [es], rfl, rfl, rfl⟩
    · exact ⟨e__law_cell, by simp [es], rfl, rfl, rfl⟩
    · exact ⟨e__law_mixed, by simp [es], rfl, rfl, rfl⟩
    · exact ⟨e__law_names, by simp [es], rfl, rfl, rfl⟩
    · exact ⟨e__law_fold, by simp [es], rfl, rfl, rfl⟩
    · exact ⟨e__law_web, by simp [es], rfl, rfl, rfl⟩
    · exact ⟨e__law_needs, by simp [es], rfl, rfl, rfl⟩
    · exact ⟨e_law, by simp [es], rfl, rfl, rfl⟩
  · simp only [ms, List.mem_cons, List.not_mem_nil, or_false] at hq
    rcases hq with rfl | rfl | rfl | rfl | rfl | rfl
    · exact ⟨e_Web_lead, by simp [es], rfl, by decide, rfl, rfl⟩
    · exact ⟨e_Web_steps, by simp [es], rfl, by decide, rfl, rfl⟩
    · exact ⟨e_Web_reach, by simp [es], rfl, by decide, rfl, rfl⟩
    · exact ⟨e_Web_turn, by simp [es], rfl, by decide, rfl, rfl⟩
    · exact ⟨e_Web_behind, by simp [es], rfl, by decide, rfl, rfl⟩
    · exact ⟨e_Web_chains, by simp [es], rfl, by decide, rfl, rfl⟩
  · simp only [mks, List.mem_cons, List.not_mem_nil, or_false] at hc
    rcases hc with rfl
    · exact ⟨e_Web___init__, by simp [es], rfl, rfl, rfl⟩
def loose0 : List PySem.Str := ["SOURCE", "Web", "woven", "apart_up_to", "apart_chains", "edges_within", "near_ones", "ground_by", "_law_cell", "_law_mixed", "_law_names", "_law_fold", "_law_web", "_law_needs"]
def loose : List PySem.Str := loose0
abbrev R : PySem.W.OpenRow := PySem.W.OpenLaw.row PySem.Challenge.rw_quoteweave_k21_needs_of_one
abbrev hk : PySem.W.Hook := lawHook 6 es free cs
def ob (s : PySem.W.SharedT) : He.AlX := He.obsX 6 (faOf es) (fnsOf es) [] [] (exB free cs) (HandSHeadRun.getT s)
theorem ob_eq (s : PySem.W.SharedT) : ob s = hk.obs s.abs := He.obsX_eq (HandSHeadRun.getT_eq s)
theorem run (w : World) : HandSHeadRun.RunEq R (PySem.W.view R.prog [17]) hk ob 4000 loose w := by
  intro os
  kernel_rfl
theorem plain : ∀ ns : List Int, ns.length ≤ 63 → (∀ z ∈ ns, Builtin.Int.intBits z ≤ 1048576) → ∃ U', VI.run tab 12 "law" [.lst (ns.map .int)] [] = some (.ok (.bl true) U') :=
  fun ns h hb => VI.plain_k21 ns h fun z hz => by
    rw [← VI.bits_eq]
    exact hb z hz
end LK
open PySem PySem.W PySem.Calls PyProof.Rows
theorem PySem.Challenge.cw_quoteweave_k21_needs_of_one_holds : PySem.Challenge.rw_quoteweave_k21_needs_of_one.Holds := by
  w_on; o_law
  refine HandSHeadRun.head_any (r := OpenLaw.row PySem.Challenge.rw_quoteweave_k21_needs_of_one) (q := view (OpenLaw.row PySem.Challenge.rw_quoteweave_k21_needs_of_one).prog [17]) (H := LK.hk) (ob := LK.ob) (M := 4000) (loose := LK.loose) (d := HandSHeadRun.topDef (OpenLaw.row PySem.Challenge.rw_quoteweave_k21_needs_of_one).prog 17) (kwd := []) LK.ob_eq
    (by kernel_rfl) (fun s => by kernel_rfl) LK.run (by kernel_rfl) (by kernel_rfl) (by kernel_rfl) (by rfl) (by first | assumption | decide +kernel) (by decide +kernel) ⟨rfl, rfl, rfl, rfl, rfl, by decide +kernel⟩ ?hw ?hc
  case hw => w_witness2
  case hc =>
    exact VI.law_V (l := PySem.Challenge.rw_quoteweave_k21_needs_of_one) (n := 63) (j := 11) (x := "script") (el := LK.e_law) rfl (by decide) (by kernel_rfl) (by kernel_rfl) ⟨rfl, by decide, by decide⟩ rfl LK.oks LK.binds LK.tabs (by simp [LK.es]) rfl rfl LK.plain
