import PyProof.Rows.All
import Wide.All
import OpenK.AllK
import Wide.FinOn
import KE.KStateDown
import HandS.Text
import HandS.ForMost
import HandS.ForExc
import HandS.Wide
import HandS.Style
import HandS.Flow
import HandS.Zip
import HandS.Rev
import HandS.IsInst
import HandS.Deep
import HandS.TupAny
import KE.KDictKeyed
import KE.KDictLaw
import HandS.SetKeys
import HandS.Comp
import HandS.Exc
import HandS.ExcOwn
import HandS.ExcInit
import HandS.TryOnly
import HandS.Iter
import HandS.RaiseMore
import HandS.Defaults
import HandS.Head0
import HandS.Head1
import HandS.Head2
import HandS.HeadEnd
import HandS.HeadHook1
import HandS.HeadHook2
import HandS.HeadHook4
import HandS.EndBits
import PySem.Challenge.RW_quoteweave_k02_numbers
set_option Elab.async false
set_option linter.all false
set_option maxRecDepth 100000
set_option maxHeartbeats 0
/-! VIa: an evaluator for a part of Python, over plain data. D: data (trees that never change; `ref n`: the object n of a store).
IE, IS: expressions, statements. ev, exec, run: what they give. Plain Lean, no program in sight. -/
namespace VI

/-- a text by its code points -/
abbrev Tx := List Nat
def S (s : String) : Tx := s.toList.map Char.toNat

inductive D where
  | non | bl (b : Bool) | int (i : Int) | str (x : Tx)
  | tup (xs : List D) | lst (xs : List D) | dct (t : Nat) (kvs : List (D × D))
  | ref (n : Nat)
  | exn (c : String) (p : D)
  deriving Repr, Inhabited
mutual
def D.beq : D → D → Bool
  | .non, .non => true
  | .bl a, .bl b => decide (a = b)
  | .int a, .int b => decide (a = b)
  | .str a, .str b => decide (a = b)
  | .tup a, .tup b => D.beqL a b
  | .lst a, .lst b => D.beqL a b
  | .dct t a, .dct u b => decide (t = u) && D.beqP a b
  | .ref a, .ref b => decide (a = b)
  | .exn c a, .exn d b => decide (c = d) && D.beq a b
  | _, _ => false
def D.beqL : List D → List D → Bool
  | [], [] => true
  | a :: r, b :: s => D.beq a b && D.beqL r s
  | _, _ => false
def D.beqP : List (D × D) → List (D × D) → Bool
  | [], [] => true
  | (a, x) :: r, (b, y) :: s => D.beq a b && D.beq x y && D.beqP r s
  | _, _ => false
end
mutual
theorem D.beq_iff : ∀ (a b : D), D.beq a b = true ↔ a = b
  | .non, b => by cases b <;> simp [D.beq]
  | .bl a, b => by cases b <;> simp [D.beq]
  | .int a, b => by cases b <;> simp [D.beq]
  | .str a, b => by cases b <;> simp [D.beq]
  | .ref a, b => by cases b <;> simp [D.beq]
  | .tup a, b => by cases b <;> simp [D.beq, D.beqL_iff a]
  | .lst a, b => by cases b <;> simp [D.beq, D.beqL_iff a]
  | .dct t a, b => by cases b <;> simp [D.beq, D.beqP_iff a]
  | .exn c a, b => by cases b <;> simp [D.beq, D.beq_iff a]
theorem D.beqL_iff : ∀ (a b : List D), D.beqL a b = true ↔ a = b
  | [], b => by cases b <;> simp [D.beqL]
  | a :: r, b => by cases b <;> simp [D.beqL, D.beq_iff a, D.beqL_iff r]
theorem D.beqP_iff : ∀ (a b : List (D × D)), D.beqP a b = true ↔ a = b
  | [], b => by cases b <;> simp [D.beqP]
  | (a, x) :: r, b => by
    match b with
    | [] => simp [D.beqP]
    | (c, y) :: s => simp [D.beqP, D.beq_iff a, D.beq_iff x, D.beqP_iff r, and_assoc]
end
instance : DecidableEq D := fun a b => if h : D.beq a b = true then isTrue ((D.beq_iff a b).mp h) else isFalse fun e => h ((D.beq_iff a b).mpr e)

/-- an object that may change: a list, a dict, an instance of the class c -/
inductive MO where
  | lst (xs : List D) | dct (t : Nat) (kvs : List (D × D)) | ins (c : String) (fs : List (String × D))
  deriving DecidableEq, Repr, Inhabited
abbrev Store := List MO

/-- an exception on its way: its class, its place -/
structure Ex where
  c : String
  p : D
  deriving DecidableEq, Repr, Inhabited
inductive R (α : Type) where
  | ok (a : α) (U : Store) | ex (x : Ex) (U : Store)
  deriving Repr
/-- none: no rule, or no end -/
abbrev M (α : Type) := Store → Option (R α)
def bnd {α β : Type} (r : Option (R α)) (f : α → M β) : Option (R β) :=
  match r with
  | some (.ok a U) => f a U
  | some (.ex x U) => some (.ex x U)
  | none => none
@[simp] theorem bnd_ok {α β : Type} (a : α) (U : Store) (f : α → M β) : bnd (some (.ok a U)) f = f a U := rfl
@[simp] theorem bnd_ex {α β : Type} (x : Ex) (U : Store) (f : α → M β) : bnd (some (.ex x U)) f = some (.ex x U) := rfl
@[simp] theorem bnd_none {α β : Type} (f : α → M β) : bnd none f = none := rfl
def ret {α : Type} (a : α) : M α := fun U => some (.ok a U)
@[simp] theorem ret_eq {α : Type} (a : α) (U : Store) : ret a U = some (.ok a U) := rfl

/-- the longest list or text -/
def SZ : Nat := 16777216

/-! ### places in the store -/
def asL (U : Store) : D → Option (List D)
  | .lst xs => some xs
  | .ref n => (match U[n]? with | some (.lst xs) => some xs | _ => none)
  | _ => none
/-- a list or a tuple -/
def asQ (U : Store) : D → Option (List D)
  | .tup xs => some xs
  | d => asL U d
/-- a dict: what sort of keys it has, its pairs -/
def asD (U : Store) : D → Option (Nat × List (D × D))
  | .dct t kvs => some (t, kvs)
  | .ref n => (match U[n]? with | some (.dct t kvs) => some (t, kvs) | _ => none)
  | _ => none
def mkL (m : Bool) (xs : List D) : M D := fun U => if m then some (.ok (.ref U.length) (U ++ [.lst xs])) else some (.ok (.lst xs) U)
def mkD (m : Bool) (t : Nat) (kvs : List (D × D)) : M D := fun U => if m then some (.ok (.ref U.length) (U ++ [.dct t kvs])) else some (.ok (.dct t kvs) U)

/-! ### the tree behind a datum; objects from n₀ on are taken, others stand as they are -/
mutual
def rsv (U : Store) (n₀ : Nat) (sub : D → Option D) : D → Option D
  | .tup xs => (rsvL U n₀ sub xs).map .tup
  | .lst xs => (rsvL U n₀ sub xs).map .lst
  | .dct t kvs => (rsvP U n₀ sub kvs).map (.dct t)
  | .ref n => sub (.ref n)
  | d => some d
def rsvL (U : Store) (n₀ : Nat) (sub : D → Option D) : List D → Option (List D)
  | [] => some []
  | x :: r => (match rsv U n₀ sub x, rsvL U n₀ sub r with | some y, some s => some (y :: s) | _, _ => none)
def rsvP (U : Store) (n₀ : Nat) (sub : D → Option D) : List (D × D) → Option (List (D × D))
  | [] => some []
  | (k, x) :: r => (match rsv U n₀ sub k, rsv U n₀ sub x, rsvP U n₀ sub r with | some j, some y, some s => some ((j, y) :: s) | _, _, _ => none)
end
def subAt (U : Store) (n₀ : Nat) : Nat → D → Option D
  | 0, _ => none
  | f + 1, .ref n => if n < n₀ then some (.ref n) else (match U[n]? with
    | some (.lst xs) => (rsvL U n₀ (subAt U n₀ f) xs).map .lst
    | some (.dct t kvs) => (rsvP U n₀ (subAt U n₀ f) kvs).map (.dct t)
    | _ => none)
  | _, _ => none
def rs (U : Store) (n₀ : Nat) (d : D) : Option D := rsv U n₀ (subAt U n₀ 8) d
def snap (U : Store) (d : D) : Option D := rs U 0 d

/-! ### equality and order of trees, as Python has them -/
mutual
def pyeq : D → D → Bool
  | .tup a, .tup b => pyeqL a b
  | .lst a, .lst b => pyeqL a b
  | .bl a, .int j => decide ((if a then 1 else 0 : Int) = j)
  | .int i, .bl b => decide (i = (if b then 1 else 0 : Int))
  | .non, .non => true
  | .bl a, .bl b => decide (a = b)
  | .int a, .int b => decide (a = b)
  | .str a, .str b => decide (a = b)
  | _, _ => false
def pyeqL : List D → List D → Bool
  | [], [] => true
  | a :: r, b :: s => pyeq a b && pyeqL r s
  | _, _ => false
end
mutual
/-- None, bools, ints, texts, lists and tuples of these, at most n deep -/
def plain : D → Nat → Bool
  | .tup _, 0 => false
  | .lst _, 0 => false
  | .tup xs, n + 1 => plainL xs n
  | .lst xs, n + 1 => plainL xs n
  | .str x, _ => x.all fun c => decide (c < 1114112)
  | .dct _ _, _ => false
  | .ref _, _ => false
  | .exn _ _, _ => false
  | _, _ => true
def plainL : List D → Nat → Bool
  | [], _ => true
  | x :: r, n => plain x n && plainL r n
end
/-- two data without parts, not a bool beside an int -/
def scalS : D → D → Bool
  | .non, .non => true
  | .non, .int _ => true
  | .int _, .non => true
  | .non, .bl _ => true
  | .bl _, .non => true
  | .non, .str _ => true
  | .str _, .non => true
  | .int _, .int _ => true
  | .bl _, .bl _ => true
  | .str _, .str _ => true
  | .int _, .str _ => true
  | .str _, .int _ => true
  | .bl _, .str _ => true
  | .str _, .bl _ => true
  | _, _ => false
/-- == of two data -/
def eqv (U : Store) (a b : D) : Option Bool :=
  if scalS a b then some (pyeq a b) else
  match snap U a, snap U b with
  | some x, some y => if plain x 40 && plain y 40 then some (pyeq x y) else none
  | _, _ => none
def flat : D → Bool
  | .non => true
  | .bl _ => true
  | .int _ => true
  | .str _ => true
  | _ => false
def snapL (U : Store) : List D → Option (List D)
  | [] => some []
  | x :: r => (match snap U x, snapL U r with | some y, some s => some (y :: s) | _, _ => none)
/-- a and the items of a list (or tuple) d as trees; of a tuple flat ones alone -/
def snaps (U : Store) (a d : D) (xs : List D) : Option (D × List D) :=
  if flat a && xs.all flat then some (a, xs) else
  match asL U d, snap U a, snapL U xs with
  | some _, some x, some ys => if plain x 40 && plainL ys 39 then some (x, ys) else none
  | _, _, _ => none
def inL (U : Store) (a d : D) (xs : List D) : Option Bool :=
  match snaps U a d xs with
  | some (x, ys) => some (ys.any fun y => pyeq y x)
  | none => none
/-- the first place of a in a list -/
def ixOf (U : Store) (a d : D) (xs : List D) : Option Nat :=
  match snaps U a d xs with
  | some (x, ys) => ys.findIdx? fun y => pyeq y x
  | none => none
mutual
/-- a < b, for data of one shape -/
def pylt : D → D → Option Bool
  | .int a, .int b => some (decide (a < b))
  | .str a, .str b => some (decide (a < b))
  | .tup a, .tup b => pyltL a b
  | .lst a, .lst b => pyltL a b
  | _, _ => none
def pyltL : List D → List D → Option Bool
  | [], [] => some false
  | [], _ :: _ => some true
  | _ :: _, [] => some false
  | a :: r, b :: s => if pyeq a b then pyltL r s else pylt a b
end
/-- what sort of key: an int or a text, a tuple of such, a tuple of such tuples -/
def flatK : D → Bool
  | .int _ => true
  | .str _ => true
  | _ => false
def tupK : D → Bool
  | .tup xs => xs.all flatK
  | _ => false
def pairK : D → Bool
  | .tup [a, b] => tupK a && tupK b
  | _ => false
/-- a key of a dict of the sort t: 0 ints and texts, 1 tuples -/
def keyFor (t : Nat) (k : D) : Bool :=
  match t with
  | 0 => flatK k
  | 1 => tupK k || pairK k
  | _ => false
def lookD (kvs : List (D × D)) (k : D) : Option D :=
  match kvs with
  | [] => none
  | (j, x) :: r => if j = k then some x else lookD r k
def putD (kvs : List (D × D)) (k v : D) : List (D × D) :=
  match kvs with
  | [] => [(k, v)]
  | (j, x) :: r => if j = k then (j, v) :: r else (j, x) :: putD r k v
def dropD (kvs : List (D × D)) (k : D) : List (D × D) :=
  match kvs with
  | [] => []
  | (j, x) :: r => if j = k then r else (j, x) :: dropD r k

/-! ### indices, slices -/
def sIx (n d : Nat) : Option Int → Nat
  | none => d
  | some v => if v < 0 then (v + (n : Int)).toNat else min v.toNat n
def cut {α : Type} (xs : List α) (lo hi : Option Int) : List α := (xs.drop (sIx xs.length 0 lo)).take (sIx xs.length xs.length hi - sIx xs.length 0 lo)
def ixN (n : Nat) (i : Int) : Option Nat := if 0 ≤ i then (if i < n then some i.toNat else none) else if -(n : Int) ≤ i then some (i + n).toNat else none
def atI {α : Type} (xs : List α) (i : Int) : Option α := (ixN xs.length i).bind fun j => xs[j]?

/-! ### texts -/
/-- split at a sign -/
def splitC (c : Nat) : Tx → List Tx
  | [] => [[]]
  | x :: r => if x = c then [] :: splitC c r else (match splitC c r with
    | [] => [[x]]
    | w :: ws => (x :: w) :: ws)
def joinT (sep : Tx) : List Tx → Tx
  | [] => []
  | [x] => x
  | x :: y :: r => x ++ (sep ++ joinT sep (y :: r))
def isPre : Tx → Tx → Bool
  | [], _ => true
  | _ :: _, [] => false
  | a :: r, b :: s => decide (a = b) && isPre r s
def showI (i : Int) : Tx := (toString i).toList.map Char.toNat
/-- the number that a text of figures writes -/
def readN (x : Tx) : Nat := x.foldl (fun n c => n * 10 + (c - 48)) 0
def isFig (c : Nat) : Bool := 48 ≤ c && c ≤ 57
/-- signs from the blank to ~ -/
def isSign (c : Nat) : Bool := 32 ≤ c && c ≤ 126
def rstripT (x : Tx) : Tx := (x.reverse.dropWhile fun c => decide (c = 32)).reverse
def findC (c : Nat) : Tx → Nat → Int
  | [], _ => -1
  | x :: r, i => if x = c then (i : Int) else findC c r (i + 1)
/-- all are texts -/
def texts : List D → Option (List Tx)
  | [] => some []
  | .str x :: r => (match texts r with | some s => some (x :: s) | none => none)
  | _ :: _ => none

/-! ### the syntax -/
inductive BOp | add | sub | mul | fdiv | mod | pow
  deriving DecidableEq, Repr
inductive COp | eq | ne | lt | le | gt | ge | isIn | notIn | is | isNot
  deriving DecidableEq, Repr
/-- functions and methods that the language gives; the receiver is the first argument. m: the list made may change -/
inductive P where
  | len | str1 | int1 | abs | max2 | min2
  | list1 | listRange | tuple1 | dict1 | sorted1 | sortedSet | lenSet | any1 | all1 | divmod2
  | join | split | startswith | rstrip | find | index | count | isdigit
  | get1 | get2 | repr1 | rev1 | listRev
  | append | extend | insert | pop0 | pop1 | popD | clear | reverse | setdefault
  deriving DecidableEq, Repr
/-- a target: a name, or names -/
inductive Tg where
  | var (i : Nat) | tup (ts : List Nat) | tup2 (a : Nat) (bs : List Nat)
  deriving DecidableEq, Repr
mutual
inductive IE where
  | cst (d : D)
  | glo (x : String) (d : D)
  | var (i : Nat)
  | bin (op : BOp) (m : Bool) (a b : IE)
  | neg (a : IE)
  | cmp (op : COp) (a b : IE)
  | cmp2 (op1 op2 : COp) (a b c : IE)
  | andE (a b : IE)
  | orE (a b : IE)
  | notE (a : IE)
  | ite (t a b : IE)
  | tup (es : IEs)
  | lst (m : Bool) (es : IEs)
  | dnil (m : Bool) (t : Nat)
  | done (m : Bool) (t : Nat) (k v : IE)
  | repL (m : Bool) (es : IEs) (k : IE)
  | idx (a i : IE)
  | slc (m : Bool) (a lo hi : IE)
  | fld (a : IE) (f : String)
  | call (fz : Bool) (f : String) (es : IEs)
  | meth (fz : Bool) (c f : String) (a : IE) (es : IEs)
  | make (c : String) (es : IEs)
  | prim (p : P) (m : Bool) (es : IEs)
  | lc (m : Bool) (own : List Nat) (tg : Tg) (it : It) (cond : IE) (el : IE)
  | isin (a : IE) (cs : List String)
  | sortK (m : Bool) (a : IE) (caps : List Nat) (key : IE)
  | minK (a : IE) (caps : List Nat) (key : IE)
inductive IEs where
  | nil | cons (e : IE) (r : IEs)
inductive It where
  | seq (e : IE)
  | range1 (a : IE) | range2 (a b : IE) | range3 (a b : IE) (c : Int)
  | enum (e : IE) (k : Int)
  | zip (a b : IE)
  | rev (e : IE)
end
mutual
inductive IS where
  | asg (tg : Tg) (e : IE)
  | asgI (o i e : IE)
  | asgF (o : IE) (f : String) (e : IE)
  | asgIV (o i : IE) (v : Nat) (e : IE)
  | aug (i : Nat) (op : BOp) (e : IE)
  | expr (e : IE)
  | ret (e : IE)
  | retN
  | ifS (t : IE) (a b : ISs)
  | forS (tg : Tg) (it : It) (b : ISs)
  | whileS (t : IE) (b : ISs)
  | brk
  | pass
  | raise (c : String) (w p : IE)
  | tryS (b : ISs) (c : String) (i : Option Nat) (h : ISs)
inductive ISs where
  | nil | cons (s : IS) (r : ISs)
end
/-- a comprehension without a test -/
def yes : IE := .cst (.bl true)
structure Fn where
  np : Nat
  ns : Nat
  body : ISs
abbrev Tab := String → Option Fn

/-! ### operators -/
/-- bits of a whole number -/
def bits (i : Int) : Nat := if i = 0 then 0 else i.natAbs.log2 + 1
def mulOk (i j : Int) : Bool := decide (bits i ≤ 64) || decide (bits j ≤ 64) || decide (bits i + bits j ≤ 100000000)
def divOk (j : Int) : Bool := decide (0 < j) && decide (j.natAbs.log2 < 9000)
def addOp (m : Bool) (a b : D) : M D := fun U =>
  match a, b with
  | .int i, .int j => some (.ok (.int (i + j)) U)
  | .str x, .str y => if x.length + y.length ≤ SZ then some (.ok (.str (x ++ y)) U) else none
  | .tup x, .tup y => if x.length + y.length ≤ SZ then some (.ok (.tup (x ++ y)) U) else none
  | x, y => (match asL U x, asL U y with
    | some xs, some ys => if xs.length + ys.length ≤ SZ then mkL m (xs ++ ys) U else none
    | _, _ => none)
def mulOp (_ : Bool) (a b : D) : M D := fun U =>
  match a, b with
  | .int i, .int j => if mulOk i j then some (.ok (.int (i * j)) U) else none
  | .str x, .int k => if -1000000 ≤ k ∧ k ≤ 1000000 ∧ x.length * k.toNat ≤ SZ then some (.ok (.str (List.replicate k.toNat x).flatten) U) else none
  | _, _ => none
def binop (op : BOp) (m : Bool) (a b : D) : M D := fun U =>
  match op with
  | .add => addOp m a b U
  | .sub => (match a, b with | .int i, .int j => some (.ok (.int (i - j)) U) | _, _ => none)
  | .mul => mulOp m a b U
  | .fdiv => (match a, b with | .int i, .int j => if divOk j then some (.ok (.int (i / j)) U) else none | _, _ => none)
  | .mod => (match a, b with | .int i, .int j => if 0 < j then some (.ok (.int (i % j)) U) else none | _, _ => none)
  | .pow => (match a, b with | .int i, .int j => if 0 ≤ j ∧ j ≤ 1000 ∧ i.natAbs < 18446744073709551616 then some (.ok (.int (i ^ j.toNat)) U) else none | _, _ => none)
def hasD (U : Store) (k d : D) : Option Bool :=
  match asD U d with
  | some (t, kvs) => if keyFor t k then some (lookD kvs k).isSome else none
  | none => none
def member (U : Store) (a b : D) : Option Bool :=
  match a, b with
  | .str x, .str y => (match x with
    | [c] => some (decide (c ∈ y))
    | _ => none)
  | _, _ => (match asQ U b with
    | some xs => inL U a b xs
    | none => hasD U a b)
def cmpop (op : COp) (U : Store) (a b : D) : Option Bool :=
  match op with
  | .eq => eqv U a b
  | .ne => (eqv U a b).map (! ·)
  | .isIn => member U a b
  | .notIn => (member U a b).map (! ·)
  | .is => (match a, b with
    | x, .non => (match x with | .non => some true | _ => some false)
    | .bl x, .bl y => some (decide (x = y))
    | _, _ => none)
  | .isNot => (match a, b with
    | x, .non => (match x with | .non => some false | _ => some true)
    | .bl x, .bl y => some (!decide (x = y))
    | _, _ => none)
  | .lt => (match a, b with
    | .int i, .int j => some (decide (i < j))
    | .str x, .str y => some (decide (x < y))
    | _, _ => none)
  | .le => (match a, b with
    | .int i, .int j => some (decide (i ≤ j))
    | _, _ => none)
  | .gt => (match a, b with
    | .int i, .int j => some (decide (j < i))
    | _, _ => none)
  | .ge => (match a, b with
    | .int i, .int j => some (decide (j ≤ i))
    | _, _ => none)
def truth (U : Store) : D → Option Bool
  | .non => some false
  | .bl b => some b
  | .int i => some (decide (i ≠ 0))
  | .str x => if x.length ≤ SZ then some (!x.isEmpty) else none
  | .tup xs => some (!xs.isEmpty)
  | .lst xs => some (!xs.isEmpty)
  | .dct t kvs => if t = 0 then some (!kvs.isEmpty) else none
  | .ref n => (match U[n]? with
    | some (.lst xs) => some (!xs.isEmpty)
    | some (.dct t kvs) => if t = 0 then some (!kvs.isEmpty) else none
    | _ => none)
  | .exn _ _ => none
def tru (x : D) : M Bool := fun U => match truth U x with
  | some k => some (.ok k U)
  | none => none
/-- the classes of the errors: each, and those above it -/
def above (c : String) : List String := [c, "WorldError", "ValueError"]
/-- the built-in type of a datum -/
def tyN (U : Store) (d : D) : Option String :=
  match d with
  | .non => some "NoneType"
  | .bl _ => some "bool"
  | .int _ => some "int"
  | .str _ => some "str"
  | .tup _ => some "tuple"
  | .lst _ => some "list"
  | .dct t _ => if t = 0 then some "dict" else none
  | .ref n => (match U[n]? with
    | some (.lst _) => some "list"
    | some (.dct t _) => if t = 0 then some "dict" else none
    | _ => none)
  | .exn _ _ => none
def someTypes : List String := ["bool", "int", "str", "tuple", "list", "dict"]
def isInst1 (U : Store) (d : D) (c : String) : Option Bool :=
  match d with
  | .exn e _ => some ((above e).contains c)
  | d => (match tyN U d with
    | some t => if someTypes.contains c then some (t == c || (t == "bool" && c == "int")) else none
    | none => none)
def isInst (U : Store) (d : D) : List String → Option Bool
  | [] => some false
  | c :: r => (match isInst1 U d c with
    | some true => some true
    | some false => isInst U d r
    | none => none)

/-! ### sorting -/
def ltD (a b : D) : Bool := (pylt a b).getD false
mutual
/-- two data of one shape, that can be put in order -/
def alike : D → D → Bool
  | .int _, .int _ => true
  | .str _, .str _ => true
  | .tup a, .tup b => alikeT a b
  | .lst a, .lst b => alikeA a b
  | _, _ => false
def alikeT : List D → List D → Bool
  | [], [] => true
  | a :: r, b :: s => alike a b && alikeT r s
  | _, _ => false
def alikeA : List D → List D → Bool
  | [], _ => true
  | _, [] => true
  | a :: r, b :: s => alike a b && alikeA r s
end
/-- stable, by keys: the least first -/
def insFront (x : D × D) : List (D × D) → List (D × D)
  | [] => [x]
  | y :: r => if ltD y.1 x.1 then y :: insFront x r else x :: y :: r
def sortPairs : List (D × D) → List (D × D)
  | [] => []
  | x :: r => insFront x (sortPairs r)
def allAlike : List D → Bool
  | [] => true
  | x :: r => r.all (fun y => alike x y) && alike x x && allAlike r
/-- xs sorted by the keys ks (trees, one for each) -/
def sortBy (ks xs : List D) : Option (List D) :=
  if ks.length = xs.length ∧ allAlike ks then some ((sortPairs (ks.zip xs)).map (·.2)) else none
def dedup : List D → List D
  | [] => []
  | x :: r => if r.contains x then dedup r else x :: dedup r

/-! ### what the language gives -/
def updS (U : Store) (n : Nat) (o : MO) : Store := U.set n o
def intOf : D → Option Int
  | .int i => some i
  | _ => none
def rangeL (a b : Int) : List D := (List.range (b - a).toNat).map fun (k : Nat) => .int (a + (k : Int))
def pairsOf : List D → Option (List (D × D))
  | [] => some []
  | .tup [k, v] :: r => (match pairsOf r with | some s => if flatK k then some ((k, v) :: s) else none | none => none)
  | _ :: _ => none
def mergeD (acc : List (D × D)) : List (D × D) → List (D × D)
  | [] => acc
  | (k, v) :: r => mergeD (putD acc k v) r
def bools : List D → Option (List Bool)
  | [] => some []
  | .bl b :: r => (match bools r with | some s => some (b :: s) | none => none)
  | _ :: _ => none
def lenOf (d : D) : M D := fun U => match d with
  | .str x => if x.length ≤ SZ then some (.ok (.int x.length) U) else none
  | d => (match asQ U d with
    | some xs => some (.ok (.int xs.length) U)
    | none => (match asD U d with
      | some (t, kvs) => if t = 0 then some (.ok (.int kvs.length) U) else none
      | none => none))
def prim (p : P) (m : Bool) (ds : List D) : M D := fun U =>
  match p, ds with
  | .len, [d] => lenOf d U
  | .str1, [.int i] => if bits i ≤ 1900 then some (.ok (.str (showI i)) U) else none
  | .str1, [.str x] => some (.ok (.str x) U)
  | .int1, [.int i] => some (.ok (.int i) U)
  | .int1, [.bl b] => some (.ok (.int (if b then 1 else 0)) U)
  | .int1, [.str x] => if x ≠ [] ∧ x.all isFig ∧ x.length ≤ 600 then some (.ok (.int (readN x)) U) else none
  | .abs, [.int i] => some (.ok (.int (if i < 0 then -i else i)) U)
  | .max2, [.int i, .int j] => some (.ok (.int (if j > i then j else i)) U)
  | .min2, [.int i, .int j] => some (.ok (.int (if j < i then j else i)) U)
  | .list1, [d] => (match asQ U d with
    | some xs => mkL m xs U
    | none => none)
  | .listRange, [.int n] => if -1000000 ≤ n ∧ n ≤ 1000000 then mkL m (rangeL 0 n) U else none
  | .tuple1, [d] => (match asQ U d with
    | some xs => some (.ok (.tup xs) U)
    | none => none)
  | .dict1, [d] => (match asL U d with
    | some xs => (match pairsOf xs with
      | some kvs => mkD m 0 (mergeD [] kvs) U
      | none => none)
    | none => none)
  | .sorted1, [d] => (match asQ U d with
    | some xs => (match snapL U xs with
      | some ks => (match sortBy ks xs with
        | some ys => mkL m ys U
        | none => none)
      | none => none)
    | none => (match asD U d with
      | some (_, kvs) => (match sortBy (kvs.map (·.1)) (kvs.map (·.1)) with
        | some ys => mkL m ys U
        | none => none)
      | none => none))
  | .sortedSet, [d] => (match asQ U d with
    | some xs => if (xs.all flatK || xs.all tupK) then (match sortBy (dedup xs) (dedup xs) with
        | some ys => mkL m ys U
        | none => none) else none
    | none => none)
  | .lenSet, [d] => (match asQ U d with
    | some xs => if (xs.all flatK || xs.all tupK) then some (.ok (.int (dedup xs).length) U) else none
    | none => none)
  | .any1, [d] => (match asL U d with
    | some xs => (match bools xs with | some bs => some (.ok (.bl (bs.any id)) U) | none => none)
    | none => none)
  | .all1, [d] => (match asL U d with
    | some xs => (match bools xs with | some bs => some (.ok (.bl (bs.all id)) U) | none => none)
    | none => none)
  | .divmod2, [.int i, .int j] => if 0 < j ∧ j < 1073741824 then some (.ok (.tup [.int (i / j), .int (i % j)]) U) else none
  | .join, [.str sep, d] => (match asQ U d with
    | some xs => (match texts xs with
      | some ts => if (ts.map (·.length)).sum + ts.length * sep.length ≤ SZ then some (.ok (.str (joinT sep ts)) U) else none
      | none => none)
    | none => none)
  | .split, [.str x, .str [c]] => if x.length + 2 ≤ SZ ∧ c < 128 then mkL m ((splitC c x).map .str) U else none
  | .rev1, [d] => (match d with
    | .tup xs => some (.ok (.tup xs.reverse) U)
    | d => (match asL U d with
      | some xs => mkL m xs.reverse U
      | none => none))
  | .listRev, [d] => (match asQ U d with
    | some xs => mkL m xs.reverse U
    | none => none)
  | .startswith, [.str x, .str y] => if y = [] then none else some (.ok (.bl (isPre y x)) U)
  | .rstrip, [.str x] => if x.all isSign ∧ x.length ≤ SZ then some (.ok (.str (rstripT x)) U) else none
  | .find, [.str x, .str [c]] => some (.ok (.int (findC c x 0)) U)
  | .index, [d, a] => (match asL U d with
    | some xs => (match ixOf U a d xs with
      | some i => some (.ok (.int i) U)
      | none => none)
    | none => none)
  | .count, [d, a] => (match asL U d with
    | some xs => (match bools xs, a with
      | some bs, .bl b => some (.ok (.int (bs.countP fun x => x == b)) U)
      | _, _ => none)
    | none => none)
  | .isdigit, [.str x] => if x.all (fun c => decide (c < 128)) then some (.ok (.bl (!x.isEmpty && x.all isFig)) U) else none
  | .get1, [d, k] => (match asD U d with
    | some (t, kvs) => if keyFor t k then some (.ok ((lookD kvs k).getD .non) U) else none
    | none => none)
  | .get2, [d, k, x] => (match asD U d with
    | some (t, kvs) => if keyFor t k then some (.ok ((lookD kvs k).getD x) U) else none
    | none => none)
  | .append, [.ref n, x] => (match U[n]? with
    | some (.lst xs) => if xs.length < SZ then some (.ok .non (updS U n (.lst (xs ++ [x])))) else none
    | _ => none)
  | .extend, [.ref n, d] => (match U[n]?, asQ U d with
    | some (.lst xs), some ys => if xs.length + ys.length ≤ SZ then some (.ok .non (updS U n (.lst (xs ++ ys)))) else none
    | _, _ => none)
  | .insert, [.ref n, .int i, x] => (match U[n]? with
    | some (.lst xs) => if 0 ≤ i ∧ i ≤ xs.length ∧ xs.length < SZ then some (.ok .non (updS U n (.lst (xs.take i.toNat ++ x :: xs.drop i.toNat)))) else none
    | _ => none)
  | .pop0, [.ref n] => (match U[n]? with
    | some (.lst xs) => (match xs.getLast? with
      | some x => some (.ok x (updS U n (.lst xs.dropLast)))
      | none => none)
    | _ => none)
  | .pop1, [.ref n, k] => (match U[n]? with
    | some (.lst xs) => (match k with
      | .int i => if 0 ≤ i ∧ i < xs.length then (match xs[i.toNat]? with
        | some x => some (.ok x (updS U n (.lst (xs.eraseIdx i.toNat))))
        | none => none) else none
      | _ => none)
    | _ => none)
  | .popD, [.ref n, k] => (match U[n]? with
    | some (.dct t kvs) => if keyFor t k then (match lookD kvs k with
      | some x => some (.ok x (updS U n (.dct t (dropD kvs k))))
      | none => none) else none
    | _ => none)
  | .clear, [.ref n] => (match U[n]? with
    | some (.lst _) => some (.ok .non (updS U n (.lst [])))
    | _ => none)
  | .reverse, [.ref n] => (match U[n]? with
    | some (.lst xs) => some (.ok .non (updS U n (.lst xs.reverse)))
    | _ => none)
  | .setdefault, [.ref n, k, x] => (match U[n]? with
    | some (.dct t kvs) => if keyFor t k then (match lookD kvs k with
      | some y => some (.ok y U)
      | none => if kvs.length < SZ then some (.ok x (updS U n (.dct t (putD kvs k x)))) else none) else none
    | _ => none)
  | _, _ => none
def index1 (o i : D) : M D := fun U =>
  match o, i with
  | .str x, .int i => if x.length ≤ SZ then (match atI x i with | some c => some (.ok (.str [c]) U) | none => none) else none
  | o, i => (match asQ U o with
    | some xs => (match i with
      | .int i => (match atI xs i with | some v => some (.ok v U) | none => none)
      | _ => none)
    | none => (match asD U o with
      | some (t, kvs) => if keyFor t i then (match lookD kvs i with | some v => some (.ok v U) | none => none) else none
      | none => none))
def bnd? : D → Option (Option Int)
  | .non => some none
  | .int i => some (some i)
  | _ => none
def sliceB (m : Bool) (o : D) (l h : Option Int) : M D := fun U => match o with
  | .str x => if x.length ≤ SZ then some (.ok (.str (cut x l h)) U) else none
  | .tup xs => some (.ok (.tup (cut xs l h)) U)
  | o => (match asL U o with
    | some xs => mkL m (cut xs l h) U
    | none => none)
def slice1 (m : Bool) (o lo hi : D) : M D := fun U =>
  match bnd? lo, bnd? hi with
  | some l, some h => sliceB m o l h U
  | _, _ => none
def putFld (f : String) (v : D) : List (String × D) → List (String × D)
  | [] => [(f, v)]
  | (g, x) :: r => if g = f then (g, v) :: r else (g, x) :: putFld f v r
def setIx (o i v : D) : M Unit := fun U =>
  match o with
  | .ref n => (match U[n]? with
    | some (.lst xs) => (match i with
      | .int k => (match ixN xs.length k with
        | some j => some (.ok () (updS U n (.lst (xs.set j v))))
        | none => none)
      | _ => none)
    | some (.dct t kvs) => if keyFor t i ∧ kvs.length < SZ then some (.ok () (updS U n (.dct t (putD kvs i v)))) else none
    | _ => none)
  | _ => none
def setFld (o : D) (f : String) (v : D) : M Unit := fun U =>
  match o with
  | .ref n => (match U[n]? with
    | some (.ins c fs) => if fs.length < 900 then some (.ok () (updS U n (.ins c (putFld f v fs)))) else none
    | _ => none)
  | _ => none
def getFld (o : D) (f : String) : M D := fun U =>
  match o with
  | .ref n => (match U[n]? with
    | some (.ins _ fs) => (match fs.lookup f with | some v => some (.ok v U) | none => none)
    | _ => none)
  | .exn _ p => if f = "place" then some (.ok p U) else none
  | _ => none

/-- what a method is asked of -/
def recvOk (p : P) (U : Store) (x : D) : Bool :=
  match p with
  | .join | .split | .startswith | .rstrip | .find | .isdigit => (match x with | .str _ => true | _ => false)
  | .index | .count | .append | .extend | .insert | .pop0 | .pop1 | .clear | .reverse => (asL U x).isSome
  | .get1 | .get2 | .setdefault | .popD => (asD U x).isSome
  | _ => true
/-! ### the evaluator -/
abbrev Rho := List (Option D)
/-- calls: a def's name, its arguments -/
abbrev Cal := String → List D → M D
def wipe (ρ : Rho) : List Nat → Rho
  | [] => ρ
  | v :: vs => (wipe ρ vs).set v none
def setAll (ρ : Rho) : List Nat → List D → Option Rho
  | [], [] => some ρ
  | i :: is, d :: ds => setAll (ρ.set i (some d)) is ds
  | _, _ => none
def asgT (U : Store) (tg : Tg) (d : D) (ρ : Rho) : Option Rho :=
  match tg with
  | .var i => some (ρ.set i (some d))
  | .tup is => (match asQ U d with
    | some ds => setAll ρ is ds
    | none => none)
  | .tup2 a bs => (match d with
    | .tup [x, y] => (match asQ U y with
      | some ds => setAll (ρ.set a (some x)) bs ds
      | none => none)
    | _ => none)
/-- what a call gives: where fz, everything that it made is taken as a tree and the store must be as it was -/
def frz (fz : Bool) (U : Store) (r : Option (R D)) : Option (R D) :=
  if fz then (match r with
    | some (.ok d V) => if V.take U.length = U then (match rs V U.length d with
      | some d' => some (.ok d' U)
      | none => none) else none
    | some (.ex x V) => if V.take U.length = U ∧ flat x.p then some (.ex x U) else none
    | none => none) else r
/-- what is walked: at each turn an item, by the store; behind the last whether that is the end -/
structure Src where
  get : List (Store → Option D)
  fin : Store → Bool
def fixS (xs : List D) : Src := ⟨xs.map fun x _ => some x, fun _ => true⟩
def liveS (n k : Nat) : Src := ⟨(List.range k).map fun i U => (match U[n]? with
  | some (.lst ys) => if ys.length = k then ys[i]? else none
  | _ => none), fun U => (match U[n]? with
  | some (.lst ys) => decide (ys.length = k)
  | _ => false)⟩
def srcOf (U : Store) (d : D) : Option Src :=
  match d with
  | .lst xs => some (fixS xs)
  | .tup xs => some (fixS xs)
  | .str x => some (fixS (x.map fun c => .str [c]))
  | .ref n => (match U[n]? with
    | some (.lst xs) => some (liveS n xs.length)
    | _ => none)
  | _ => none
/-- a list alone -/
def srcL (U : Store) (d : D) : Option Src :=
  match d with
  | .lst xs => some (fixS xs)
  | .ref n => (match U[n]? with
    | some (.lst xs) => some (liveS n xs.length)
    | _ => none)
  | _ => none
def enumS (k : Int) : Nat → List (Store → Option D) → List (Store → Option D)
  | _, [] => []
  | i, g :: r => (fun U => (g U).map fun x => .tup [.int (k + i), x]) :: enumS k (i + 1) r
def zipS : List (Store → Option D) → List (Store → Option D) → List (Store → Option D)
  | g :: r, h :: s => (fun U => (match g U, h U with | some x, some y => some (.tup [x, y]) | _, _ => none)) :: zipS r s
  | _, _ => []
/-- two tuples, or two lists -/
def zipOf (U : Store) (x y : D) : Option (Src × Src) :=
  match x, y with
  | .tup xs, .tup ys => some (fixS xs, fixS ys)
  | x, y => (match srcL U x, srcL U y with
    | some s, some t => some (s, t)
    | _, _ => none)
def small (i : Int) : Bool := decide (-1000000000 ≤ i) && decide (i ≤ 1000000000)
/-- nothing raised -/
def noEx {α : Type} (r : Option (R α)) : Option (R α) :=
  match r with
  | some (.ok a U) => some (.ok a U)
  | _ => none
@[simp] theorem noEx_ok {α : Type} (a : α) (U : Store) : noEx (some (.ok a U)) = some (.ok a U) := rfl
/-- one turn of a comprehension -/
def turnL (tg : Tg) (cond : Rho → M Bool) (el : Rho → M D) (ρ : Rho) (x : D) (V : Store) : Option (R (Option D)) := noEx (match asgT V tg x ρ with
  | some ρ2 => bnd (cond ρ2 V) fun k V1 => if k then bnd (el ρ2 V1) fun d V2 => ret (some d) V2 else ret none V1
  | none => none)
/-- a comprehension's items -/
def lcGo (turn : D → M (Option D)) : List (Store → Option D) → M (List D)
  | [] => ret []
  | g :: r => fun U => (match g U with
    | some x => bnd (turn x U) fun o U1 => bnd (lcGo turn r U1) fun ds U2 => ret (match o with | some d => d :: ds | none => ds) U2
    | none => none)
mutual
def ev (C : Cal) : IE → Rho → M D
  | .cst d, _, U => some (.ok d U)
  | .glo _ d, _, U => some (.ok d U)
  | .var i, ρ, U => (match ρ[i]? with
    | some (some d) => some (.ok d U)
    | _ => none)
  | .bin op m a b, ρ, U => bnd (ev C a ρ U) fun x U1 => bnd (ev C b ρ U1) fun y U2 => binop op m x y U2
  | .neg a, ρ, U => bnd (ev C a ρ U) fun x U1 => (match x with
    | .int i => some (.ok (.int (-i)) U1)
    | _ => none)
  | .cmp op a b, ρ, U => bnd (ev C a ρ U) fun x U1 => bnd (ev C b ρ U1) fun y U2 => (match cmpop op U2 x y with
    | some k => some (.ok (.bl k) U2)
    | none => none)
  | .cmp2 op1 op2 a b c, ρ, U => bnd (ev C a ρ U) fun x U1 => bnd (ev C b ρ U1) fun y U2 => (match cmpop op1 U2 x y with
    | some k => if k then bnd (ev C c ρ U2) fun z U3 => (match cmpop op2 U3 y z with
      | some j => some (.ok (.bl j) U3)
      | none => none) else some (.ok (.bl false) U2)
    | none => none)
  | .andE a b, ρ, U => bnd (ev C a ρ U) fun x U1 => (match x with
    | .bl k => if k then ev C b ρ U1 else some (.ok (.bl false) U1)
    | _ => none)
  | .orE a b, ρ, U => bnd (ev C a ρ U) fun x U1 => (match x with
    | .bl k => if k then some (.ok (.bl true) U1) else ev C b ρ U1
    | _ => none)
  | .notE a, ρ, U => bnd (ev C a ρ U) fun x U1 => (match x with
    | .bl k => some (.ok (.bl (!k)) U1)
    | _ => none)
  | .ite t a b, ρ, U => bnd (evB C t ρ U) fun k U1 => if k then ev C a ρ U1 else ev C b ρ U1
  | .tup es, ρ, U => bnd (evs C es ρ U) fun ds U1 => some (.ok (.tup ds) U1)
  | .lst m es, ρ, U => bnd (evs C es ρ U) fun ds U1 => mkL m ds U1
  | .dnil m t, _, U => mkD m t [] U
  | .done m t a b, ρ, U => bnd (ev C a ρ U) fun k U1 => bnd (ev C b ρ U1) fun v U2 => if keyFor t k then mkD m t [(k, v)] U2 else none
  | .repL m es a, ρ, U => bnd (evs C es ρ U) fun ds U1 => bnd (ev C a ρ U1) fun k U2 => (match k with
    | .int k => if -1000000 ≤ k ∧ k ≤ 1000000 ∧ ds.length * k.toNat ≤ SZ then mkL m (List.replicate k.toNat ds).flatten U2 else none
    | _ => none)
  | .idx a i, ρ, U => bnd (ev C a ρ U) fun x U1 => bnd (ev C i ρ U1) fun y U2 => index1 x y U2
  | .slc m a lo hi, ρ, U => bnd (ev C a ρ U) fun x U1 => bnd (ev C lo ρ U1) fun l U2 => if (bnd? l).isSome then bnd (ev C hi ρ U2) fun h U3 => slice1 m x l h U3 else none
  | .fld a f, ρ, U => bnd (ev C a ρ U) fun x U1 => getFld x f U1
  | .call fz f es, ρ, U => bnd (evs C es ρ U) fun ds U1 => frz fz U1 (C f ds U1)
  | .meth fz c f a es, ρ, U => bnd (ev C a ρ U) fun x U1 => (match x with
    | .ref n => (match U1[n]? with
      | some (.ins c' _) => if c' = c then bnd (evs C es ρ U1) fun ds U2 => frz fz U2 (C (c ++ "." ++ f) (.ref n :: ds) U2) else none
      | _ => none)
    | _ => none)
  | .make c es, ρ, U => bnd (evs C es ρ U) fun ds U1 => bnd (C (c ++ ".__init__") (.ref U1.length :: ds) (U1 ++ [.ins c []])) fun d U2 => (match d with
    | .non => some (.ok (.ref U1.length) U2)
    | _ => none)
  | .prim p m es, ρ, U => (match es with
    | .cons a r => bnd (ev C a ρ U) fun x U1 => if recvOk p U1 x then bnd (evs C r ρ U1) fun ds U2 => prim p m (x :: ds) U2 else none
    | .nil => none)
  | .lc m own tg it cond el, ρ, U => bnd (evIt C it ρ U) fun src U1 => if SZ < src.get.length then none else
      bnd (lcGo (turnL tg (evB C cond) (ev C el) (wipe ρ own)) src.get U1) fun ds U2 => if src.fin U2 then mkL m ds U2 else none
  | .isin a cs, ρ, U => bnd (ev C a ρ U) fun x U1 => (match isInst U1 x cs with
    | some k => some (.ok (.bl k) U1)
    | none => none)
  | .sortK m a caps key, ρ, U => bnd (ev C a ρ U) fun x U1 => (match x with
    | .lst xs => bnd (lcGo (fun x V => bnd (ev C key (some x :: caps.map fun i => (ρ[i]?).join) V) fun d V1 => if V1 = V then ret (some d) V1 else none) (fixS xs).get U1) fun ks U2 => (match sortBy ks xs with
      | some ys => mkL m ys U2
      | none => none)
    | _ => none)
  | .minK a caps key, ρ, U => bnd (ev C a ρ U) fun x U1 => (match x with
    | .lst xs => bnd (lcGo (fun x V => bnd (ev C key (some x :: caps.map fun i => (ρ[i]?).join) V) fun d V1 => if V1 = V then ret (some d) V1 else none) (fixS xs).get U1) fun ks U2 => (match sortBy ks xs with
      | some (y :: _) => some (.ok y U2)
      | _ => none)
    | _ => none)
/-- a test -/
def evB (C : Cal) : IE → Rho → M Bool
  | .andE a b, ρ, U => bnd (evB C a ρ U) fun k U1 => if k then evB C b ρ U1 else some (.ok false U1)
  | .orE a b, ρ, U => bnd (evB C a ρ U) fun k U1 => if k then some (.ok true U1) else evB C b ρ U1
  | .notE a, ρ, U => bnd (evB C a ρ U) fun k U1 => some (.ok (!k) U1)
  | .cst (.bl b), _, U => some (.ok b U)
  | e, ρ, U => bnd (ev C e ρ U) fun x U1 => tru x U1
def evs (C : Cal) : IEs → Rho → M (List D)
  | .nil, _, U => some (.ok [] U)
  | .cons e r, ρ, U => bnd (ev C e ρ U) fun x U1 => bnd (evs C r ρ U1) fun xs U2 => some (.ok (x :: xs) U2)
def evIt (C : Cal) : It → Rho → M Src
  | .seq e, ρ, U => bnd (ev C e ρ U) fun x U1 => (match srcOf U1 x with
    | some s => some (.ok s U1)
    | none => none)
  | .range1 a, ρ, U => bnd (ev C a ρ U) fun x U1 => (match x with
    | .int i => if small i then some (.ok (fixS (rangeL 0 i)) U1) else none
    | _ => none)
  | .range2 a b, ρ, U => bnd (ev C a ρ U) fun x U1 => bnd (ev C b ρ U1) fun y U2 => (match x, y with
    | .int i, .int j => if small i && small j then some (.ok (fixS (rangeL i j)) U2) else none
    | _, _ => none)
  | .range3 a b c, ρ, U => bnd (ev C a ρ U) fun x U1 => bnd (ev C b ρ U1) fun y U2 => (match x, y with
    | .int i, .int j => if small i && small j && decide (0 < c) && decide (c ≤ 1000) then some (.ok (fixS ((List.range ((j - i + c - 1) / c).toNat).map fun (k : Nat) => .int (i + (k : Int) * c))) U2) else none
    | _, _ => none)
  | .enum e k, ρ, U => bnd (ev C e ρ U) fun x U1 => (match srcL U1 x with
    | some s => if k = 0 then some (.ok ⟨enumS k 0 s.get, s.fin⟩ U1) else none
    | none => none)
  | .zip a b, ρ, U => bnd (ev C a ρ U) fun x U1 => bnd (ev C b ρ U1) fun y U2 => (match zipOf U2 x y with
    | some (s, t) => some (.ok ⟨zipS s.get t.get, fun V => s.fin V && t.fin V⟩ U2)
    | none => none)
  | .rev e, ρ, U => bnd (ev C e ρ U) fun x U1 => (match x with
    | .lst xs => some (.ok (fixS xs.reverse) U1)
    | .tup xs => some (.ok (fixS xs.reverse) U1)
    | _ => none)
end

/-! ### statements -/
inductive RS where
  | nx (ρ : Rho) (U : Store) | rt (d : D) (U : Store) | bk (ρ : Rho) (U : Store) | ex (x : Ex) (ρ : Rho) (U : Store)
  deriving Repr
def bndS {α : Type} (r : Option (R α)) (ρ : Rho) (f : α → Store → Option RS) : Option RS :=
  match r with
  | some (.ok a U) => f a U
  | some (.ex x U) => some (.ex x ρ U)
  | none => none
@[simp] theorem bndS_ok {α : Type} (a : α) (U : Store) (ρ : Rho) (f : α → Store → Option RS) : bndS (some (.ok a U)) ρ f = f a U := rfl
@[simp] theorem bndS_ex {α : Type} (x : Ex) (U : Store) (ρ : Rho) (f : α → Store → Option RS) : bndS (some (.ex x U)) ρ f = some (.ex x ρ U) := rfl
@[simp] theorem bndS_none {α : Type} (ρ : Rho) (f : α → Store → Option RS) : bndS none ρ f = none := rfl
/-- then -/
def thn (r : Option RS) (f : Rho → Store → Option RS) : Option RS :=
  match r with
  | some (.nx ρ U) => f ρ U
  | r => r
@[simp] theorem thn_nx (ρ : Rho) (U : Store) (f : Rho → Store → Option RS) : thn (some (.nx ρ U)) f = f ρ U := rfl
@[simp] theorem thn_rt (d : D) (U : Store) (f : Rho → Store → Option RS) : thn (some (.rt d U)) f = some (.rt d U) := rfl
@[simp] theorem thn_bk (ρ : Rho) (U : Store) (f : Rho → Store → Option RS) : thn (some (.bk ρ U)) f = some (.bk ρ U) := rfl
@[simp] theorem thn_ex (x : Ex) (ρ : Rho) (U : Store) (f : Rho → Store → Option RS) : thn (some (.ex x ρ U)) f = some (.ex x ρ U) := rfl
@[simp] theorem thn_none (f : Rho → Store → Option RS) : thn none f = none := rfl
/-- a loop's body is done: on to the next turn, or out of the loop -/
def turnEnd (r : Option RS) (next : Rho → Store → Option RS) : Option RS :=
  match r with
  | some (.nx ρ U) => next ρ U
  | some (.bk ρ U) => some (.nx ρ U)
  | r => r
@[simp] theorem turnEnd_nx (ρ : Rho) (U : Store) (f : Rho → Store → Option RS) : turnEnd (some (.nx ρ U)) f = f ρ U := rfl
@[simp] theorem turnEnd_rt (d : D) (U : Store) (f : Rho → Store → Option RS) : turnEnd (some (.rt d U)) f = some (.rt d U) := rfl
@[simp] theorem turnEnd_bk (ρ : Rho) (U : Store) (f : Rho → Store → Option RS) : turnEnd (some (.bk ρ U)) f = some (.nx ρ U) := rfl
@[simp] theorem turnEnd_ex (x : Ex) (ρ : Rho) (U : Store) (f : Rho → Store → Option RS) : turnEnd (some (.ex x ρ U)) f = some (.ex x ρ U) := rfl
@[simp] theorem turnEnd_none (f : Rho → Store → Option RS) : turnEnd none f = none := rfl
def forGo (fin : Store → Bool) (turn : D → Rho → Store → Option RS) : List (Store → Option D) → Rho → Store → Option RS
  | [], ρ, U => if fin U then some (.nx ρ U) else none
  | g :: r, ρ, U => (match g U with
    | some x => turnEnd (turn x ρ U) fun ρ' U' => forGo fin turn r ρ' U'
    | none => none)
/-- one turn of a for -/
def turnF (tg : Tg) (b : Rho → Store → Option RS) (x : D) (ρ : Rho) (V : Store) : Option RS := match asgT V tg x ρ with
  | some ρ2 => b ρ2 V
  | none => none
/-- while, with at most n tests -/
def whileGo (test : Rho → M Bool) (body : Rho → Store → Option RS) : Nat → Rho → Store → Option RS
  | 0, _, _ => none
  | n + 1, ρ, U => bndS (test ρ U) ρ fun k U1 => if k then turnEnd (body ρ U1) fun ρ' U' => whileGo test body n ρ' U' else some (.nx ρ U1)
def WN : Nat := 1000000
mutual
def exec (C : Cal) : IS → Rho → Store → Option RS
  | .asg tg e, ρ, U => bndS (ev C e ρ U) ρ fun d U1 => (match asgT U1 tg d ρ with
    | some ρ' => some (.nx ρ' U1)
    | none => none)
  | .asgI o i e, ρ, U => bndS (ev C e ρ U) ρ fun d U1 => bndS (ev C o ρ U1) ρ fun x U2 => bndS (ev C i ρ U2) ρ fun k U3 => bndS (setIx x k d U3) ρ fun _ U4 => some (.nx ρ U4)
  | .asgF o f e, ρ, U => bndS (ev C e ρ U) ρ fun d U1 => bndS (ev C o ρ U1) ρ fun x U2 => bndS (setFld x f d U2) ρ fun _ U3 => some (.nx ρ U3)
  | .asgIV o i v e, ρ, U => bndS (ev C e ρ U) ρ fun d U1 => (match d with
    | .tup [x, y] => bndS (ev C o ρ U1) ρ fun a U2 => bndS (ev C i ρ U2) ρ fun k U3 => bndS (setIx a k x U3) ρ fun _ U4 => some (.nx (ρ.set v (some y)) U4)
    | _ => none)
  | .aug i op e, ρ, U => (match ρ[i]? with
    | some (some x) => bndS (ev C e ρ U) ρ fun d U1 => (match x, d with
      | .int a, .int b => (match op with
        | .add => some (.nx (ρ.set i (some (.int (a + b)))) U1)
        | .sub => some (.nx (ρ.set i (some (.int (a - b)))) U1)
        | _ => none)
      | _, _ => none)
    | _ => none)
  | .expr e, ρ, U => bndS (ev C e ρ U) ρ fun _ U1 => some (.nx ρ U1)
  | .ret e, ρ, U => bndS (ev C e ρ U) ρ fun d U1 => some (.rt d U1)
  | .retN, _, U => some (.rt .non U)
  | .ifS t a b, ρ, U => bndS (evB C t ρ U) ρ fun k U1 => if k then execs C a ρ U1 else execs C b ρ U1
  | .forS tg it b, ρ, U => bndS (evIt C it ρ U) ρ fun src U1 => forGo src.fin (turnF tg (execs C b)) src.get ρ U1
  | .whileS t b, ρ, U => whileGo (evB C t) (execs C b) WN ρ U
  | .brk, ρ, U => some (.bk ρ U)
  | .pass, ρ, U => some (.nx ρ U)
  | .raise c w p, ρ, U => bndS (ev C w ρ U) ρ fun _ U1 => bndS (ev C p ρ U1) ρ fun d U2 => some (.ex ⟨c, d⟩ ρ U2)
  | .tryS b c i h, ρ, U => (match execs C b ρ U with
    | some (.ex x ρ1 U1) => if (above x.c).contains c then (match i with
      | some j => (match execs C h (ρ1.set j (some (.exn x.c x.p))) U1 with
        | some (.nx ρ2 U2) => some (.nx (ρ2.set j none) U2)
        | some (.rt d U2) => some (.rt d U2)
        | _ => none)
      | none => execs C h ρ1 U1) else some (.ex x ρ1 U1)
    | r => r)
def execs (C : Cal) : ISs → Rho → Store → Option RS
  | .nil, ρ, U => some (.nx ρ U)
  | .cons s r, ρ, U => thn (exec C s ρ U) fun ρ' U' => execs C r ρ' U'
end
/-- a def's end -/
def fin : Option RS → Option (R D)
  | some (.nx _ U) => some (.ok .non U)
  | some (.rt d U) => some (.ok d U)
  | some (.ex x _ U) => some (.ex x U)
  | _ => none
@[simp] theorem fin_nx (ρ : Rho) (U : Store) : fin (some (.nx ρ U)) = some (.ok .non U) := rfl
@[simp] theorem fin_rt (d : D) (U : Store) : fin (some (.rt d U)) = some (.ok d U) := rfl
@[simp] theorem fin_ex (x : Ex) (ρ : Rho) (U : Store) : fin (some (.ex x ρ U)) = some (.ex x U) := rfl
def startR (fn : Fn) (ds : List D) : Rho := ds.map some ++ List.replicate (fn.ns - fn.np) none
/-- a call, at most k deep -/
def run (Γ : Tab) : Nat → Cal
  | 0, _, _, _ => none
  | k + 1, f, ds, U => (match Γ f with
    | some fn => if ds.length = fn.np then fin (execs (run Γ k) fn.body (startR fn ds) U) else none
    | none => none)
end VI

/-! VIp: plain lemmas about the evaluator. -/
namespace VI
/-! ### trees without references -/
mutual
def closed : D → Bool
  | .tup xs => closedL xs
  | .lst xs => closedL xs
  | .dct _ kvs => closedP kvs
  | .ref _ => false
  | _ => true
def closedL : List D → Bool
  | [] => true
  | x :: r => closed x && closedL r
def closedP : List (D × D) → Bool
  | [] => true
  | (k, x) :: r => closed k && (closed x && closedP r)
end
mutual
theorem rsv_closed {U : Store} {n : Nat} {sub : D → Option D} : ∀ (d : D), closed d = true → rsv U n sub d = some d
  | .non, _ => by simp [rsv]
  | .bl _, _ => by simp [rsv]
  | .int _, _ => by simp [rsv]
  | .str _, _ => by simp [rsv]
  | .exn _ _, _ => by simp [rsv]
  | .ref _, h => by simp [closed] at h
  | .tup xs, h => by simp [rsv, rsvL_closed xs (by simpa [closed] using h)]
  | .lst xs, h => by simp [rsv, rsvL_closed xs (by simpa [closed] using h)]
  | .dct t kvs, h => by simp [rsv, rsvP_closed kvs (by simpa [closed] using h)]
theorem rsvL_closed {U : Store} {n : Nat} {sub : D → Option D} : ∀ (ds : List D), closedL ds = true → rsvL U n sub ds = some ds
  | [], _ => by simp [rsvL]
  | x :: r, h => by
    simp only [closedL, Bool.and_eq_true] at h
    simp [rsvL, rsv_closed x h.1, rsvL_closed r h.2]
theorem rsvP_closed {U : Store} {n : Nat} {sub : D → Option D} : ∀ (ds : List (D × D)), closedP ds = true → rsvP U n sub ds = some ds
  | [], _ => by simp [rsvP]
  | (k, x) :: r, h => by
    simp only [closedP, Bool.and_eq_true] at h
    simp [rsvP, rsv_closed k h.1, rsv_closed x h.2.1, rsvP_closed r h.2.2]
end
theorem rs_closed {U : Store} {n : Nat} {d : D} (h : closed d = true) : rs U n d = some d := rsv_closed d h
theorem snap_closed {U : Store} {d : D} (h : closed d = true) : snap U d = some d := rsv_closed d h
theorem snapL_closed {U : Store} : ∀ {ds : List D}, closedL ds = true → snapL U ds = some ds
  | [], _ => rfl
  | x :: r, h => by
    simp only [closedL, Bool.and_eq_true] at h
    simp [snapL, snap_closed h.1, snapL_closed h.2]
/-- a call that leaves the store as it is and gives a tree -/
theorem frz_closed {fz : Bool} {U : Store} {d : D} (h : closed d = true) : frz fz U (some (.ok d U)) = some (.ok d U) := by
  unfold frz
  cases fz
  · rfl
  · simp [rs_closed h]
@[simp] theorem frz_bl {fz : Bool} {U : Store} {b : Bool} : frz fz U (some (.ok (.bl b) U)) = some (.ok (.bl b) U) := frz_closed rfl
@[simp] theorem frz_int {fz : Bool} {U : Store} {b : Int} : frz fz U (some (.ok (.int b) U)) = some (.ok (.int b) U) := frz_closed rfl
@[simp] theorem frz_str {fz : Bool} {U : Store} {b : Tx} : frz fz U (some (.ok (.str b) U)) = some (.ok (.str b) U) := frz_closed rfl
@[simp] theorem frz_non {fz : Bool} {U : Store} : frz fz U (some (.ok .non U)) = some (.ok .non U) := frz_closed rfl
/-! ### loops over what stays -/
def forL (turn : D → Rho → Store → Option RS) : List D → Rho → Store → Option RS
  | [], ρ, U => some (.nx ρ U)
  | x :: r, ρ, U => turnEnd (turn x ρ U) fun ρ' U' => forL turn r ρ' U'
theorem forGo_fix (turn : D → Rho → Store → Option RS) : ∀ (xs : List D) (ρ : Rho) (U : Store), forGo (fixS xs).fin turn (fixS xs).get ρ U = forL turn xs ρ U
  | [], ρ, U => rfl
  | x :: r, ρ, U => by
    show turnEnd (turn x ρ U) (fun ρ' U' => forGo (fixS r).fin turn (fixS r).get ρ' U') = turnEnd (turn x ρ U) fun ρ' U' => forL turn r ρ' U'
    congr 1
    funext ρ' U'
    exact forGo_fix turn r ρ' U'
/-- a loop that goes through, with an invariant by what is behind -/
theorem forL_inv {turn : D → Rho → Store → Option RS} {U : Store} (I : List D → Rho → Prop) : ∀ (xs done : List D) (ρ : Rho), I done ρ → (∀ (d : List D) (x : D) (r : List D) (ρ : Rho), done ++ xs = d ++ x :: r → I d ρ → ∃ ρ', turn x ρ U = some (.nx ρ' U) ∧ I (d ++ [x]) ρ') → ∃ ρ', forL turn xs ρ U = some (.nx ρ' U) ∧ I (done ++ xs) ρ'
  | [], done, ρ, h, _ => ⟨ρ, rfl, by rw [List.append_nil]; exact h⟩
  | x :: r, done, ρ, h, st => by
    obtain ⟨ρ', e, h'⟩ := st done x r ρ rfl h
    obtain ⟨ρ2, e2, h2⟩ := forL_inv I r (done ++ [x]) ρ' h' fun d y s ρ1 e1 hd => st d y s ρ1 (by rw [← e1]; simp) hd
    refine ⟨ρ2, ?_, by simpa using h2⟩
    rw [forL, e, turnEnd_nx]
    exact e2
theorem run_at {Γ : Tab} {k : Nat} {f : String} {fn : Fn} {ds : List D} {U : Store} (h : Γ f = some fn) (hd : ds.length = fn.np) : run Γ (k + 1) f ds U = fin (execs (run Γ k) fn.body (startR fn ds) U) := by
  rw [run, h]
  simp [hd]
@[simp] theorem evB_yes (C : Cal) (ρ : Rho) (U : Store) : evB C yes ρ U = some (.ok true U) := by simp [yes, evB]
end VI

/-! VIq: figures. -/
namespace VI
theorem showI_nat (n : Nat) : showI (n : Int) = TL.numL n := by
  rw [← TL.tl_num, TL.tl_ofString]
  rfl
theorem showI_len {i : Int} {k : Nat} (hk : 0 < k) (h0 : 0 ≤ i) (h : i < 10 ^ k) : (showI i).length ≤ k := by
  obtain ⟨n, rfl⟩ := Int.eq_ofNat_of_zero_le h0
  rw [showI_nat]
  exact TL.numL_len hk (by exact_mod_cast h)
end VI

/-! K02p: the law k02 in plain Lean (IR printed by glink.py). -/
namespace VI
def fn_made_of_1 : ISs := (.cons (.ifS (.cmp .notIn (.var 2) (.var 1))
 (.cons (.ret (.cst (.bl false)))
 .nil)
 .nil)
 .nil)
def fn_made_of : Fn := ⟨2, 3,
 (.cons (.forS (.var 2) (.seq (.var 0)) fn_made_of_1)
 (.cons (.ret (.cst (.bl true)))
 .nil))⟩
def fn_number_in : Fn := ⟨1, 1,
 (.cons (.ifS (.orE (.notE (.cmp2 .le .le (.cst (.int 1)) (.prim .len false (.cons (.var 0) .nil)) (.glo "MOST_FIGURES" (.int 9)))) (.notE (.call true "made_of" (.cons (.var 0) (.cons (.cst (.str [48, 49, 50, 51, 52, 53, 54, 55, 56, 57])) .nil)))))
 (.cons (.ret (.cst .non))
 .nil)
 .nil)
 (.cons (.ifS (.andE (.prim .startswith false (.cons (.var 0) (.cons (.cst (.str [48])) .nil))) (.cmp .ne (.var 0) (.cst (.str [48]))))
 (.cons (.ret (.cst .non))
 .nil)
 .nil)
 (.cons (.ret (.prim .int1 false (.cons (.var 0) .nil)))
 .nil)))⟩
def fn__law_mixed : Fn := ⟨2, 3,
 (.cons (.asg (.var 2) (.bin .add false (.cst (.int 91343852333181432387730302044767688731)) (.bin .mul false (.bin .mul false (.cst (.int 7919000003)) (.var 1)) (.var 1))))
 (.cons (.ret (.bin .mod false (.bin .mul false (.var 0) (.var 2)) (.cst (.int 170141183460469231731687303715884105727))))
 .nil))⟩
def fn__law_sign_by : Fn := ⟨1, 2,
 (.cons (.asg (.var 1) (.cst (.str [32, 33, 34, 35, 36, 38, 39, 40, 41, 42, 43, 44, 45, 46, 47, 48, 49, 50, 51, 52, 53, 54, 55, 56, 57, 58, 59, 60, 61, 62, 63, 64, 65, 66, 67, 68, 69, 70, 71, 72, 73, 74, 75, 76, 77, 78, 79, 80, 81, 82, 83, 84, 85, 86, 87, 88, 89, 90, 91, 92, 93, 94, 95, 96])))
 (.cons (.asg (.var 1) (.bin .add false (.var 1) (.cst (.str [97, 98, 99, 100, 101, 102, 103, 104, 105, 106, 107, 108, 109, 110, 111, 112, 113, 114, 115, 116, 117, 118, 119, 120, 121, 122, 123, 124, 125, 126]))))
 (.cons (.ret (.idx (.var 1) (.bin .mod false (.var 0) (.cst (.int 94)))))
 .nil)))⟩
def fn__law_number_1 : ISs := (.cons (.ifS (.cmp .notIn (.var 2) (.cst (.str [48, 49, 50, 51, 52, 53, 54, 55, 56, 57])))
 (.cons (.ret (.neg (.cst (.int 1))))
 .nil)
 .nil)
 (.cons (.asg (.var 1) (.bin .add false (.bin .mul false (.var 1) (.cst (.int 10))) (.prim .find false (.cons (.cst (.str [48, 49, 50, 51, 52, 53, 54, 55, 56, 57])) (.cons (.var 2) .nil)))))
 .nil))
def fn__law_number : Fn := ⟨1, 3,
 (.cons (.ifS (.orE (.cmp .lt (.prim .len false (.cons (.var 0) .nil)) (.cst (.int 1))) (.cmp .gt (.prim .len false (.cons (.var 0) .nil)) (.cst (.int 9))))
 (.cons (.ret (.neg (.cst (.int 1))))
 .nil)
 .nil)
 (.cons (.ifS (.andE (.cmp .gt (.prim .len false (.cons (.var 0) .nil)) (.cst (.int 1))) (.cmp .eq (.idx (.var 0) (.cst (.int 0))) (.cst (.str [48]))))
 (.cons (.ret (.neg (.cst (.int 1))))
 .nil)
 .nil)
 (.cons (.asg (.var 1) (.cst (.int 0)))
 (.cons (.forS (.var 2) (.seq (.var 0)) fn__law_number_1)
 (.cons (.ret (.var 1))
 .nil)))))⟩
def fn__law_figures_by : Fn := ⟨1, 2,
 (.cons (.asg (.var 1) (.bin .mod false (.var 0) (.cst (.int 4))))
 (.cons (.ifS (.cmp .eq (.var 1) (.cst (.int 0)))
 (.cons (.ret (.prim .str1 false (.cons (.bin .add false (.bin .sub false (.bin .pow false (.cst (.int 10)) (.cst (.int 9))) (.cst (.int 2))) (.bin .mod false (.bin .fdiv false (.var 0) (.cst (.int 4))) (.cst (.int 4)))) .nil)))
 .nil)
 .nil)
 (.cons (.ifS (.andE (.cmp .eq (.var 1) (.cst (.int 1))) (.cmp .eq (.bin .mod false (.bin .fdiv false (.var 0) (.cst (.int 4000))) (.cst (.int 3))) (.cst (.int 0))))
 (.cons (.ret (.prim .str1 false (.cons (.bin .mod false (.bin .fdiv false (.var 0) (.cst (.int 4))) (.cst (.int 3))) .nil)))
 .nil)
 .nil)
 (.cons (.ifS (.cmp .eq (.var 1) (.cst (.int 1)))
 (.cons (.ret (.prim .str1 false (.cons (.bin .mod false (.bin .fdiv false (.var 0) (.cst (.int 4))) (.cst (.int 1000))) .nil)))
 .nil)
 .nil)
 (.cons (.ret (.slc false (.prim .str1 false (.cons (.bin .mod false (.bin .fdiv false (.var 0) (.cst (.int 128))) (.bin .pow false (.cst (.int 10)) (.cst (.int 10)))) .nil)) (.cst .non) (.bin .add false (.cst (.int 1)) (.bin .mod false (.bin .fdiv false (.var 0) (.cst (.int 4))) (.cst (.int 10))))))
 .nil)))))⟩
def fn__law_text_by : Fn := ⟨2, 6,
 (.cons (.asg (.var 2) (.call true "_law_figures_by" (.cons (.var 0) .nil)))
 (.cons (.asg (.var 3) (.bin .mod false (.var 1) (.cst (.int 8))))
 (.cons (.asg (.var 4) (.bin .mod false (.bin .mod false (.bin .fdiv false (.var 1) (.cst (.int 8))) (.cst (.int 32))) (.bin .add false (.prim .len false (.cons (.var 2) .nil)) (.cst (.int 1)))))
 (.cons (.asg (.var 5) (.call true "_law_sign_by" (.cons (.bin .fdiv false (.var 1) (.cst (.int 512))) .nil)))
 (.cons (.ifS (.cmp .eq (.bin .mod false (.bin .fdiv false (.var 1) (.cst (.int 256))) (.cst (.int 2))) (.cst (.int 0)))
 (.cons (.asg (.var 5) (.idx (.cst (.str [43, 45, 95, 32, 46])) (.bin .mod false (.bin .fdiv false (.var 1) (.cst (.int 512))) (.cst (.int 5)))))
 .nil)
 .nil)
 (.cons (.ifS (.cmp .eq (.var 3) (.cst (.int 1)))
 (.cons (.ret (.bin .add false (.var 2) (.bin .mul false (.cst (.str [48])) (.bin .mod false (.bin .fdiv false (.var 1) (.cst (.int 8))) (.cst (.int 21))))))
 .nil)
 .nil)
 (.cons (.ifS (.cmp .eq (.var 3) (.cst (.int 2)))
 (.cons (.ret (.bin .add false (.bin .mul false (.cst (.str [48])) (.bin .mod false (.bin .fdiv false (.var 1) (.cst (.int 8))) (.cst (.int 4)))) (.var 2)))
 .nil)
 .nil)
 (.cons (.ifS (.cmp .eq (.var 3) (.cst (.int 3)))
 (.cons (.ret (.bin .add false (.bin .add false (.slc false (.var 2) (.cst .non) (.var 4)) (.var 5)) (.slc false (.var 2) (.var 4) (.cst .non))))
 .nil)
 .nil)
 (.cons (.ifS (.cmp .eq (.var 3) (.cst (.int 4)))
 (.cons (.ret (.bin .add false (.bin .add false (.slc false (.var 2) (.cst .non) (.var 4)) (.var 5)) (.slc false (.var 2) (.bin .add false (.var 4) (.cst (.int 1))) (.cst .non))))
 .nil)
 .nil)
 (.cons (.ifS (.cmp .eq (.var 3) (.cst (.int 5)))
 (.cons (.ret (.bin .add false (.slc false (.var 2) (.cst .non) (.var 4)) (.slc false (.var 2) (.bin .add false (.var 4) (.cst (.int 1))) (.cst .non))))
 .nil)
 .nil)
 (.cons (.ret (.var 2))
 .nil)))))))))))⟩
def fn_law_1 : ISs := (.cons (.asg (.var 2) (.call true "_law_text_by" (.cons (.call true "_law_mixed" (.cons (.var 1) (.cons (.cst (.int 1)) .nil))) (.cons (.call true "_law_mixed" (.cons (.var 1) (.cons (.cst (.int 2)) .nil))) .nil))))
 (.cons (.asg (.var 3) (.call true "number_in" (.cons (.var 2) .nil)))
 (.cons (.asg (.var 4) (.call true "_law_number" (.cons (.var 2) .nil)))
 (.cons (.ifS (.cmp .lt (.var 4) (.cst (.int 0)))
 (.cons (.ifS (.cmp .isNot (.var 3) (.cst .non))
 (.cons (.ret (.cst (.bl false)))
 .nil)
 .nil)
 .nil)
 (.cons (.ifS (.orE (.notE (.isin (.var 3) ["int"])) (.orE (.isin (.var 3) ["bool"]) (.cmp .ne (.var 3) (.var 4))))
 (.cons (.ret (.cst (.bl false)))
 .nil)
 .nil)
 .nil))
 .nil))))
def fn_law : Fn := ⟨1, 5,
 (.cons (.forS (.var 1) (.seq (.bin .add false (.var 0) (.lst false (.cons (.prim .len false (.cons (.var 0) .nil)) .nil)))) fn_law_1)
 (.cons (.ret (.cst (.bl true)))
 .nil))⟩
def tab : Tab := fun f => match f with
  | "made_of" => some fn_made_of
  | "number_in" => some fn_number_in
  | "_law_mixed" => some fn__law_mixed
  | "_law_sign_by" => some fn__law_sign_by
  | "_law_number" => some fn__law_number
  | "_law_figures_by" => some fn__law_figures_by
  | "_law_text_by" => some fn__law_text_by
  | "law" => some fn_law
  | _ => none
theorem tab_made_of : tab "made_of" = some fn_made_of := rfl
theorem tab_number_in : tab "number_in" = some fn_number_in := rfl
theorem tab__law_mixed : tab "_law_mixed" = some fn__law_mixed := rfl
theorem tab__law_sign_by : tab "_law_sign_by" = some fn__law_sign_by := rfl
theorem tab__law_number : tab "_law_number" = some fn__law_number := rfl
theorem tab__law_figures_by : tab "_law_figures_by" = some fn__law_figures_by := rfl
theorem tab__law_text_by : tab "_law_text_by" = some fn__law_text_by := rfl
theorem tab_law : tab "law" = some fn_law := rfl
/-! ### made_of -/
theorem made_step {C : Cal} {s : Tx} {U : Store} {a : D} (c : Nat) (o : Option D) : turnF (.var 2) (execs C fn_made_of_1) (.str [c]) [some a, some (.str s), o] U =
    if c ∈ s then some (.nx [some a, some (.str s), some (.str [c])] U) else some (.rt (.bl false) U) := by
  by_cases hc : c ∈ s <;> simp [turnF, asgT, fn_made_of_1, execs, exec, evB, ev, cmpop, member, tru, truth, hc]
theorem made_loop {C : Cal} {s : Tx} {U : Store} {a : D} : ∀ (w : Tx) (o : Option D), ∃ o', forL (turnF (.var 2) (execs C fn_made_of_1)) (w.map fun c => .str [c]) [some a, some (.str s), o] U =
    if w.all (fun c => decide (c ∈ s)) then some (.nx [some a, some (.str s), o'] U) else some (.rt (.bl false) U)
  | [], o => ⟨o, by simp [forL]⟩
  | c :: w, o => by
    obtain ⟨o', h⟩ := made_loop (C := C) (s := s) (U := U) (a := a) w (some (.str [c]))
    refine ⟨o', ?_⟩
    rw [List.map_cons, forL, made_step]
    by_cases hc : c ∈ s <;> simp [hc, h]
theorem r_made_of (k : Nat) (w s : Tx) (U : Store) : run tab (k + 1) "made_of" [.str w, .str s] U = some (.ok (.bl (w.all fun c => decide (c ∈ s))) U) := by
  rw [run_at tab_made_of rfl]
  obtain ⟨o', h⟩ := made_loop (C := run tab k) (s := s) (U := U) (a := .str w) w none
  generalize (w.all fun c => decide (c ∈ s)) = b at h ⊢
  simp only [fn_made_of, startR, execs, exec, evIt, ev]
  cases b <;> simp [srcOf, forGo_fix, h, execs, exec, ev]

def figs : Tx := [48, 49, 50, 51, 52, 53, 54, 55, 56, 57]
def allFig (w : Tx) : Bool := w.all fun c => decide (c ∈ figs)
theorem figs_isFig (c : Nat) : decide (c ∈ figs) = isFig c := by
  unfold isFig figs
  by_cases h : 48 ≤ c ∧ c ≤ 57
  · have : c = 48 ∨ c = 49 ∨ c = 50 ∨ c = 51 ∨ c = 52 ∨ c = 53 ∨ c = 54 ∨ c = 55 ∨ c = 56 ∨ c = 57 := by omega
    rcases this with rfl | rfl | rfl | rfl | rfl | rfl | rfl | rfl | rfl | rfl <;> decide
  · have h1 : c ∉ ([48, 49, 50, 51, 52, 53, 54, 55, 56, 57] : List Nat) := by
      intro hm
      simp only [List.mem_cons, List.not_mem_nil, or_false] at hm
      omega
    simp only [h1, decide_false]
    simp only [Bool.false_eq, Bool.and_eq_false_iff, decide_eq_false_iff_not]
    omega
/-- a number in words: one to nine figures, no 0 ahead -/
def isNum (w : Tx) : Bool := decide (1 ≤ w.length) && (decide (w.length ≤ 9) && (allFig w && !(isPre [48] w && !decide (w = [48]))))
def numD (w : Tx) : D := if isNum w then .int (readN w) else .non
theorem r_number_in (k : Nat) (w : Tx) (U : Store) (hw : w.length ≤ SZ) : run tab (k + 2) "number_in" [.str w] U = some (.ok (numD w) U) := by
  rw [run_at tab_number_in rfl]
  have h := r_made_of k w figs U
  have e : ([48, 49, 50, 51, 52, 53, 54, 55, 56, 57] : Tx) = figs := rfl
  have ha : (w.all fun c => decide (c ∈ figs)) = allFig w := rfl
  rw [ha] at h
  simp only [fn_number_in, startR, execs, exec, ev, evs, evB, e]
  unfold numD isNum
  by_cases h1 : (1 : Int) ≤ w.length
  · have h1' : 1 ≤ w.length := by omega
    by_cases h2 : (w.length : Int) ≤ 9
    · have h2' : w.length ≤ 9 := by omega
      cases hf : allFig w
      · simp [recvOk, prim, lenOf, hw, cmpop, tru, truth, h1, h2, h1', h2', h, hf, execs, exec, ev]
      · have hall : w.all isFig = true := by
          rw [← hf]
          unfold allFig
          congr 1
          funext c
          exact (figs_isFig c).symm
        have hall' : ∀ x ∈ w, isFig x = true := List.all_eq_true.mp hall
        have hz1 : (1 : Nat) ≤ SZ := by decide
        have hf48 : isFig 48 = true := by decide
        have hne : w ≠ [] := fun z => by rw [z] at h1'; simp at h1'
        have h600 : w.length ≤ 600 := by omega
        cases hp : isPre [48] w
        · simp [recvOk, prim, lenOf, hw, cmpop, tru, truth, h1, h2, h1', h2', h, hf, execs, exec, ev, evs, evB, hp, eqv, scalS, pyeq, -List.all_eq_true, hall, hne, h600]
        · by_cases h0 : w = [48]
          · subst h0
            simp [recvOk, prim, lenOf, hw, cmpop, tru, truth, h, hf, execs, exec, ev, evs, evB, eqv, scalS, pyeq, hall, hz1, hf48]
          · simp [recvOk, prim, lenOf, hw, cmpop, tru, truth, h1, h2, h1', h2', h, hf, execs, exec, ev, evs, evB, hp, eqv, scalS, pyeq, -List.all_eq_true, hall, hne, h600, h0]
    · have h2' : ¬ w.length ≤ 9 := by omega
      simp [recvOk, prim, lenOf, hw, cmpop, tru, truth, h1, h2, h1', h2', execs, exec, ev]
  · have h1' : ¬ 1 ≤ w.length := by omega
    simp [recvOk, prim, lenOf, hw, cmpop, tru, truth, h1, h1', execs, exec, ev]
theorem atI_has {α : Type} {xs : List α} {i : Int} (h0 : 0 ≤ i) (h1 : i < xs.length) : ∃ c, atI xs i = some c := by
  unfold atI ixN
  rw [if_pos h0, if_pos h1]
  have : i.toNat < xs.length := by omega
  exact ⟨xs[i.toNat], by simp [this]⟩
theorem r_sign_by (k : Nat) (n : Int) (U : Store) : ∃ c : Nat, run tab (k + 1) "_law_sign_by" [.int n] U = some (.ok (.str [c]) U) := by
  have h0 : 0 ≤ n % 94 := Int.emod_nonneg _ (by decide)
  have h1 : n % 94 < 94 := Int.emod_lt_of_pos _ (by decide)
  rw [run_at tab__law_sign_by rfl]
  simp only [fn__law_sign_by, startR, execs, exec, ev]
  simp [asgT, binop, addOp, SZ]
  generalize hx : ([32, 33, 34, 35, 36, 38, 39, 40, 41, 42, 43, 44, 45, 46, 47, 48, 49, 50, 51, 52, 53, 54, 55, 56, 57, 58, 59, 60, 61, 62, 63, 64, 65, 66, 67, 68, 69, 70, 71, 72, 73, 74, 75, 76, 77, 78, 79, 80, 81, 82, 83, 84, 85, 86, 87, 88, 89, 90, 91, 92, 93, 94, 95, 96, 97, 98, 99, 100, 101, 102, 103, 104, 105, 106, 107, 108, 109, 110, 111, 112, 113, 114, 115, 116, 117, 118, 119, 120, 121, 122, 123, 124, 125, 126] : List Nat) = x
  have hl : x.length = 94 := by rw [← hx]; rfl
  obtain ⟨c, e⟩ := atI_has (xs := x) h0 (by rw [hl]; exact h1)
  refine ⟨c, ?_⟩
  simp [index1, SZ, hl, e]
theorem cut_len {α : Type} (xs : List α) (lo hi : Option Int) : (cut xs lo hi).length ≤ xs.length := by
  unfold cut
  simp only [List.length_take, List.length_drop]
  omega
theorem bits_small {i : Int} (h : i.natAbs ≤ 1000000) : bits i ≤ 1048576 := by
  unfold bits
  split
  · omega
  · have := Nat.log2_le_self i.natAbs
    omega

/-! ### the law's own number -/
theorem find_fig {c : Nat} (h : isFig c = true) : findC c figs 0 = ((c - 48 : Nat) : Int) := by
  unfold isFig at h
  simp only [Bool.and_eq_true, decide_eq_true_eq] at h
  have : c = 48 ∨ c = 49 ∨ c = 50 ∨ c = 51 ∨ c = 52 ∨ c = 53 ∨ c = 54 ∨ c = 55 ∨ c = 56 ∨ c = 57 := by omega
  rcases this with rfl | rfl | rfl | rfl | rfl | rfl | rfl | rfl | rfl | rfl <;> decide
theorem num_step {C : Cal} {U : Store} {a : D} (c : Nat) (n : Nat) (o : Option D) : turnF (.var 2) (execs C fn__law_number_1) (.str [c]) [some a, some (.int n), o] U =
    if isFig c then some (.nx [some a, some (.int ((n * 10 + (c - 48) : Nat) : Int)), some (.str [c])] U) else some (.rt (.int (-1)) U) := by
  have e0 : ([48, 49, 50, 51, 52, 53, 54, 55, 56, 57] : Tx) = figs := rfl
  have hm : mulOk (n : Int) 10 = true := by
    unfold mulOk
    have : bits 10 ≤ 64 := by decide +kernel
    simp [this]
  simp only [turnF, asgT, fn__law_number_1, execs, exec, evB, ev, evs, e0]
  have hd := figs_isFig c
  cases hc : isFig c
  · rw [hc] at hd
    have : c ∉ figs := of_decide_eq_false hd
    simp [cmpop, member, tru, truth, this, execs, exec, ev]
  · rw [hc] at hd
    have h1 : c ∈ figs := of_decide_eq_true hd
    simp [cmpop, member, tru, truth, h1, execs, exec, ev, evs, asgT, recvOk, prim, binop, mulOp, addOp, hm, find_fig hc]
theorem num_loop {C : Cal} {U : Store} {a : D} : ∀ (w : Tx) (n : Nat) (o : Option D), ∃ o', forL (turnF (.var 2) (execs C fn__law_number_1)) (w.map fun c => .str [c]) [some a, some (.int n), o] U =
    if w.all isFig then some (.nx [some a, some (.int ((w.foldl (fun n c => n * 10 + (c - 48)) n : Nat) : Int)), o'] U) else some (.rt (.int (-1)) U)
  | [], n, o => ⟨o, by simp [forL]⟩
  | c :: w, n, o => by
    obtain ⟨o', h⟩ := num_loop (C := C) (U := U) (a := a) w (n * 10 + (c - 48)) (some (.str [c]))
    refine ⟨o', ?_⟩
    rw [List.map_cons, forL, num_step]
    cases hc : isFig c
    · simp [hc]
    · simp only [if_true, turnEnd_nx, h, List.all_cons, hc, Bool.true_and, List.foldl_cons]
def dueD (w : Tx) : Int := if isNum w then (readN w : Int) else -1
theorem allFig_eq (w : Tx) : allFig w = w.all isFig := by
  unfold allFig
  congr 1
  funext c
  exact figs_isFig c
theorem head_facts (w : Tx) (h : 1 ≤ w.length) : ∃ c, atI w 0 = some c ∧ isPre [48] w = decide (c = 48) ∧ decide (w = [48]) = (decide (c = 48) && decide (w.length = 1)) := by
  cases w with
  | nil => simp at h
  | cons c r =>
    refine ⟨c, by unfold atI ixN; simp, ?_, ?_⟩
    · by_cases hc : c = 48
      · simp [isPre, hc]
      · have hc' : ¬ 48 = c := fun z => hc z.symm
        simp [isPre, hc, hc']
    · by_cases hc : c = 48 <;> cases r <;> simp [hc]
theorem r_law_number (k : Nat) (w : Tx) (U : Store) (hw : w.length ≤ SZ) : run tab (k + 1) "_law_number" [.str w] U = some (.ok (.int (dueD w)) U) := by
  rw [run_at tab__law_number rfl]
  obtain ⟨o', h⟩ := num_loop (C := run tab k) (U := U) (a := .str w) w 0 none
  have h : forL (turnF (.var 2) (execs (run tab k) fn__law_number_1)) (w.map fun c => .str [c]) [some (.str w), some (.int 0), none] U = if w.all isFig then some (.nx [some (.str w), some (.int (readN w)), o'] U) else some (.rt (.int (-1)) U) := h
  have hz1 : (1 : Nat) ≤ SZ := by decide
  simp only [fn__law_number, startR, execs, exec, evIt, evB, ev, evs]
  by_cases h1 : (w.length : Int) < 1
  · have h1' : ¬ 1 ≤ w.length := by omega
    unfold dueD isNum
    simp [recvOk, prim, lenOf, hw, cmpop, tru, truth, h1, h1', execs, exec, ev]
  · have h1' : 1 ≤ w.length := by omega
    by_cases h2 : (9 : Int) < w.length
    · have h2' : ¬ w.length ≤ 9 := by omega
      unfold dueD isNum
      simp [recvOk, prim, lenOf, hw, cmpop, tru, truth, h1, h2, h2', execs, exec, ev]
    · have h2' : w.length ≤ 9 := by omega
      obtain ⟨c, hz0, e1, e3⟩ := head_facts w h1'
      unfold dueD isNum
      rw [allFig_eq, e1, e3]
      generalize hb : w.all isFig = b at h ⊢
      have g1 : decide (1 ≤ w.length) = true := by simpa using h1'
      have g2 : decide (w.length ≤ 9) = true := by simpa using h2'
      rw [g1, g2]
      by_cases hr : (1 : Int) < w.length
      · have q2 : decide (w.length = 1) = false := by simp; omega
        rw [q2]
        by_cases hc : c = 48
        · simp [recvOk, prim, lenOf, hw, hz1, cmpop, tru, truth, h1, h2, hr, execs, exec, ev, evs, evB, index1, hz0, eqv, scalS, pyeq, hc]
        · cases b <;> simp [recvOk, prim, lenOf, hw, hz1, cmpop, tru, truth, h1, h2, hr, execs, exec, ev, evs, evB, evIt, asgT, srcOf, forGo_fix, h, index1, hz0, eqv, scalS, pyeq, hc]
      · have q2 : decide (w.length = 1) = true := by simp; omega
        rw [q2]
        cases b <;> by_cases hc : c = 48 <;> simp [recvOk, prim, lenOf, hw, hz1, cmpop, tru, truth, h1, h2, hr, execs, exec, ev, evs, evB, evIt, asgT, srcOf, forGo_fix, h, hc]
/-! ### the word -/
theorem r_mixed (k : Nat) (c : Int) (f : Int) (U : Store) (hf : f = 1 ∨ f = 2) (hb : bits c ≤ 1048576) : ∃ n : Int, run tab (k + 1) "_law_mixed" [.int c, .int f] U = some (.ok (.int n) U) := by
  have b1 : mulOk 7919000003 f = true := by rcases hf with rfl | rfl <;> decide +kernel
  have b2 : mulOk (7919000003 * f) f = true := by rcases hf with rfl | rfl <;> decide +kernel
  have b3 : mulOk c (91343852333181432387730302044767688731 + 7919000003 * f * f) = true := by
    unfold mulOk
    have : bits (91343852333181432387730302044767688731 + 7919000003 * f * f) ≤ 200 := by rcases hf with rfl | rfl <;> decide +kernel
    simp only [Bool.or_eq_true, decide_eq_true_eq]
    omega
  refine ⟨c * (91343852333181432387730302044767688731 + 7919000003 * f * f) % 170141183460469231731687303715884105727, ?_⟩
  rw [run_at tab__law_mixed rfl]
  simp only [fn__law_mixed, startR, execs, exec, ev]
  simp [asgT, binop, addOp, mulOp, b1, b2, b3]
theorem bits_le {i : Int} (h0 : 0 ≤ i) (h : i < 1152921504606846976) : bits i ≤ 1900 := by
  unfold bits
  split
  · omega
  · have : i.natAbs.log2 < 60 := (Nat.log2_lt (by omega)).mpr (by omega)
    omega
theorem str_ok {m : Bool} {i : Int} {U : Store} (h0 : 0 ≤ i) (h : i < 1152921504606846976) : prim .str1 m [.int i] U = some (.ok (.str (showI i)) U) := by
  rw [prim, if_pos (bits_le h0 h)]
theorem r_figures (k : Nat) (n : Int) (U : Store) : ∃ w : Tx, w.length ≤ 11 ∧ run tab (k + 1) "_law_figures_by" [.int n] U = some (.ok (.str w) U) := by
  have d1 : divOk 4 = true := by decide +kernel
  have d2 : divOk 4000 = true := by decide +kernel
  have d3 : divOk 128 = true := by decide +kernel
  have p9 : (10 : Int) ^ 9 = 1000000000 := by decide
  have p10 : (10 : Int) ^ 10 = 10000000000 := by decide
  have m1 : ∀ a : Int, 0 ≤ a % 4 ∧ a % 4 < 4 := fun a => ⟨Int.emod_nonneg _ (by decide), Int.emod_lt_of_pos _ (by decide)⟩
  have m2 : ∀ a : Int, 0 ≤ a % 3 ∧ a % 3 < 3 := fun a => ⟨Int.emod_nonneg _ (by decide), Int.emod_lt_of_pos _ (by decide)⟩
  have m3 : ∀ a : Int, 0 ≤ a % 1000 ∧ a % 1000 < 1000 := fun a => ⟨Int.emod_nonneg _ (by decide), Int.emod_lt_of_pos _ (by decide)⟩
  have m4 : ∀ a : Int, 0 ≤ a % 10000000000 ∧ a % 10000000000 < 10000000000 := fun a => ⟨Int.emod_nonneg _ (by decide), Int.emod_lt_of_pos _ (by decide)⟩
  rw [run_at tab__law_figures_by rfl]
  by_cases w0 : n % 4 = 0
  · have q := m1 (n / 4)
    refine ⟨showI (1000000000 - 2 + n / 4 % 4), Nat.le_trans (showI_len (k := 11) (by decide) (by omega) (by omega)) (by decide), ?_⟩
    have e := str_ok (m := false) (U := U) (i := 1000000000 - 2 + n / 4 % 4) (by omega) (by omega)
    simp only [fn__law_figures_by, startR, execs, exec, ev, evs, evB]
    simp [binop, asgT, cmpop, eqv, scalS, pyeq, tru, truth, w0, execs, exec, ev, evs, addOp, p9, d1, recvOk] at e ⊢
    simp [e]
  · by_cases w1 : n % 4 = 1
    · by_cases w2 : n / 4000 % 3 = 0
      · have q := m2 (n / 4)
        refine ⟨showI (n / 4 % 3), Nat.le_trans (showI_len (k := 11) (by decide) (by omega) (by omega)) (by decide), ?_⟩
        have e := str_ok (m := false) (U := U) (i := n / 4 % 3) (by omega) (by omega)
        simp only [fn__law_figures_by, startR, execs, exec, ev, evs, evB]
        simp [binop, asgT, cmpop, eqv, scalS, pyeq, tru, truth, w1, w2, execs, exec, ev, evs, evB, addOp, d1, d2, recvOk, e]
      · have q := m3 (n / 4)
        refine ⟨showI (n / 4 % 1000), Nat.le_trans (showI_len (k := 11) (by decide) (by omega) (by omega)) (by decide), ?_⟩
        have e := str_ok (m := false) (U := U) (i := n / 4 % 1000) (by omega) (by omega)
        simp only [fn__law_figures_by, startR, execs, exec, ev, evs, evB]
        simp [binop, asgT, cmpop, eqv, scalS, pyeq, tru, truth, w1, w2, execs, exec, ev, evs, evB, addOp, d1, d2, recvOk, e]
    · have q := m4 (n / 128)
      have hl : (showI (n / 128 % 10000000000)).length ≤ 11 := showI_len (k := 11) (by decide) (by omega) (by omega)
      have hz : (showI (n / 128 % 10000000000)).length ≤ SZ := Nat.le_trans hl (by decide)
      refine ⟨cut (showI (n / 128 % 10000000000)) none (some (1 + n / 4 % 10)), Nat.le_trans (cut_len _ _ _) hl, ?_⟩
      have e := str_ok (m := false) (U := U) (i := n / 128 % 10000000000) (by omega) (by omega)
      simp only [fn__law_figures_by, startR, execs, exec, ev, evs, evB]
      simp [binop, asgT, cmpop, eqv, scalS, pyeq, tru, truth, w0, w1, execs, exec, ev, evs, evB, addOp, d1, d2, d3, p10, recvOk, e, slice1, sliceB, bnd?, hz]
theorem r_text_by (k : Nat) (n m : Int) (U : Store) : ∃ w : Tx, w.length ≤ 100 ∧ run tab (k + 2) "_law_text_by" [.int n, .int m] U = some (.ok (.str w) U) := by
  rw [run_at tab__law_text_by rfl]
  have d1 : divOk 8 = true := by decide +kernel
  have d2 : divOk 512 = true := by decide +kernel
  have d3 : divOk 256 = true := by decide +kernel
  have hz1 : (1 : Nat) ≤ SZ := by decide
  have hz5 : (5 : Nat) ≤ SZ := by decide
  obtain ⟨w, hl, hw⟩ := r_figures k n U
  obtain ⟨c0, hc⟩ := r_sign_by k (m / 512) U
  have hz : w.length ≤ SZ := Nat.le_trans hl (by decide)
  have hp : (0 : Int) < (w.length : Int) + 1 := by omega
  have s1 : ∀ lo hi, (cut w lo hi).length ≤ 11 := fun lo hi => Nat.le_trans (cut_len w lo hi) hl
  have fit : ∀ {a b : Nat}, a ≤ 50 → b ≤ 50 → a + b ≤ SZ := fun {a b} h1 h2 => Nat.le_trans (Nat.add_le_add h1 h2) (by decide)
  -- the sign: one of two
  have sg : ∃ c : Nat, ∃ ρ : Rho, ρ = [some (.int n), some (.int m), some (.str w), some (.int (m % 8)), some (.int (m / 8 % 32 % ((w.length : Int) + 1))), some (.str [c])] ∧ ∀ r : ISs, execs (run tab (k + 1)) (.cons (.asg (.var 2) (.call true "_law_figures_by" (.cons (.var 0) .nil)))
      (.cons (.asg (.var 3) (.bin .mod false (.var 1) (.cst (.int 8))))
      (.cons (.asg (.var 4) (.bin .mod false (.bin .mod false (.bin .fdiv false (.var 1) (.cst (.int 8))) (.cst (.int 32))) (.bin .add false (.prim .len false (.cons (.var 2) .nil)) (.cst (.int 1)))))
      (.cons (.asg (.var 5) (.call true "_law_sign_by" (.cons (.bin .fdiv false (.var 1) (.cst (.int 512))) .nil)))
      (.cons (.ifS (.cmp .eq (.bin .mod false (.bin .fdiv false (.var 1) (.cst (.int 256))) (.cst (.int 2))) (.cst (.int 0)))
      (.cons (.asg (.var 5) (.idx (.cst (.str [43, 45, 95, 32, 46])) (.bin .mod false (.bin .fdiv false (.var 1) (.cst (.int 512))) (.cst (.int 5)))))
      .nil)
      .nil) r))))) [some (.int n), some (.int m), none, none, none, none] U = execs (run tab (k + 1)) r ρ U := by
    by_cases h : m / 256 % 2 = 0
    · obtain ⟨c, e⟩ := atI_has (xs := ([43, 45, 95, 32, 46] : Tx)) (i := m / 512 % 5) (Int.emod_nonneg _ (by decide)) (by have := Int.emod_lt_of_pos (m / 512) (show (0 : Int) < 5 by decide); simpa using this)
      refine ⟨c, _, rfl, fun r => ?_⟩
      simp [execs, exec, ev, evs, evB, asgT, hw, hc, binop, d1, d2, d3, recvOk, prim, lenOf, hz, addOp, hp, cmpop, eqv, scalS, pyeq, tru, truth, h, index1, hz5, e]
    · refine ⟨c0, _, rfl, fun r => ?_⟩
      simp [execs, exec, ev, evs, evB, asgT, hw, hc, binop, d1, d2, d3, recvOk, prim, lenOf, hz, addOp, hp, cmpop, eqv, scalS, pyeq, tru, truth, h, index1, hz5]
  obtain ⟨c, ρ, hρ, hs⟩ := sg
  have hbody : fn__law_text_by.body = fn__law_text_by.body := rfl
  simp only [fn__law_text_by, startR]
  show ∃ w : Tx, w.length ≤ 100 ∧ fin (execs (run tab (k + 1)) _ [some (.int n), some (.int m), none, none, none, none] U) = _
  rw [hs]
  subst hρ
  generalize hat : m / 8 % 32 % ((w.length : Int) + 1) = t
  have l1 := s1 none (some t)
  have l2 := s1 (some t) none
  have l3 := s1 (some (t + 1)) none
  have f1 : (cut w none (some t)).length + 1 ≤ SZ := fit (by omega) (by decide)
  have f2 : (cut w none (some t)).length + 1 + (cut w (some t) none).length ≤ SZ := fit (show (cut w none (some t)).length + 1 ≤ 50 by omega) (by omega)
  have f3 : (cut w none (some t)).length + 1 + (cut w (some (t + 1)) none).length ≤ SZ := fit (show (cut w none (some t)).length + 1 ≤ 50 by omega) (by omega)
  have f4 : (cut w none (some t)).length + (cut w (some (t + 1)) none).length ≤ SZ := fit (by omega) (by omega)
  have q21 : 0 ≤ m / 8 % 21 ∧ m / 8 % 21 < 21 := ⟨Int.emod_nonneg _ (by decide), Int.emod_lt_of_pos _ (by decide)⟩
  have q4 : 0 ≤ m / 8 % 4 ∧ m / 8 % 4 < 4 := ⟨Int.emod_nonneg _ (by decide), Int.emod_lt_of_pos _ (by decide)⟩
  have rl : ∀ j : Nat, (List.replicate j ([48] : Tx)).flatten.length = j := fun j => by simp
  by_cases w1 : m % 8 = 1
  · have c1 : -1000000 ≤ m / 8 % 21 ∧ m / 8 % 21 ≤ 1000000 ∧ ([48] : Tx).length * (m / 8 % 21).toNat ≤ SZ := ⟨by omega, by omega, Nat.le_trans (show _ ≤ 50 by simp; omega) (by decide)⟩
    have c2 : w.length + (List.replicate (m / 8 % 21).toNat ([48] : Tx)).flatten.length ≤ SZ := by rw [rl]; exact fit (by omega) (by omega)
    refine ⟨w ++ (List.replicate (m / 8 % 21).toNat ([48] : Tx)).flatten, by rw [List.length_append, rl]; omega, ?_⟩
    simp only [execs, exec, ev, evs, evB, cmpop]
    simp only [List.getElem?_cons_succ, List.getElem?_cons_zero, bnd_ok, eqv, scalS, if_true, pyeq, w1, decide_true, tru, truth, bndS_ok, thn_nx, thn_rt, execs, exec, ev, evs, evB, binop, d1, mulOp, addOp, if_pos c1, if_pos c2, fin_rt]
    simp only [show (0 : Int) < 21 by decide, if_true, bnd_ok, if_pos c1, if_pos c2, bndS_ok, thn_rt, fin_rt]
  by_cases w2 : m % 8 = 2
  · have c1 : -1000000 ≤ m / 8 % 4 ∧ m / 8 % 4 ≤ 1000000 ∧ ([48] : Tx).length * (m / 8 % 4).toNat ≤ SZ := ⟨by omega, by omega, Nat.le_trans (show _ ≤ 50 by simp; omega) (by decide)⟩
    have c2 : (List.replicate (m / 8 % 4).toNat ([48] : Tx)).flatten.length + w.length ≤ SZ := by rw [rl]; exact fit (by omega) (by omega)
    refine ⟨(List.replicate (m / 8 % 4).toNat ([48] : Tx)).flatten ++ w, by rw [List.length_append, rl]; omega, ?_⟩
    simp only [execs, exec, ev, evs, evB, cmpop]
    have e21 : decide ((2 : Int) = 1) = false := by decide
    simp only [List.getElem?_cons_succ, List.getElem?_cons_zero, bnd_ok, eqv, scalS, if_true, pyeq, w2, e21, decide_true, tru, truth, bndS_ok, thn_nx, thn_rt, execs, exec, ev, evs, evB, binop, d1, mulOp, addOp, if_pos c1, if_pos c2, fin_rt, Bool.false_eq_true, if_false]
    simp only [show (0 : Int) < 4 by decide, if_true, bnd_ok, if_pos c1, if_pos c2, bndS_ok, thn_rt, fin_rt]
  by_cases w3 : m % 8 = 3
  · refine ⟨cut w none (some t) ++ [c] ++ cut w (some t) none, by simp; omega, ?_⟩
    simp [execs, exec, ev, evs, evB, asgT, binop, d1, mulOp, addOp, cmpop, eqv, scalS, pyeq, tru, truth, slice1, sliceB, bnd?, hz, w3, f1, f2]
  by_cases w4 : m % 8 = 4
  · refine ⟨cut w none (some t) ++ [c] ++ cut w (some (t + 1)) none, by simp; omega, ?_⟩
    simp [execs, exec, ev, evs, evB, asgT, binop, d1, mulOp, addOp, cmpop, eqv, scalS, pyeq, tru, truth, slice1, sliceB, bnd?, hz, w4, f1, f3]
  by_cases w5 : m % 8 = 5
  · refine ⟨cut w none (some t) ++ cut w (some (t + 1)) none, by simp; omega, ?_⟩
    simp [execs, exec, ev, evs, evB, asgT, binop, d1, mulOp, addOp, cmpop, eqv, scalS, pyeq, tru, truth, slice1, sliceB, bnd?, hz, w5, f4]
  · refine ⟨w, by omega, ?_⟩
    simp [execs, exec, ev, evs, evB, asgT, binop, d1, mulOp, addOp, cmpop, eqv, scalS, pyeq, tru, truth, slice1, sliceB, bnd?, hz, w1, w2, w3, w4, w5]
/-! ### the law -/
theorem law_turn (k : Nat) (c : Int) (U : Store) (a : D) (o1 o2 o3 o4 : Option D) (hb : bits c ≤ 1048576) : ∃ w f g, turnF (.var 1) (execs (run tab (k + 3)) fn_law_1) (.int c) [some a, o1, o2, o3, o4] U = some (.nx [some a, some (.int c), some w, some f, some g] U) := by
  obtain ⟨n, hm⟩ := r_mixed (k + 2) c 1 U (.inl rfl) hb
  obtain ⟨n2, hm2⟩ := r_mixed (k + 2) c 2 U (.inr rfl) hb
  obtain ⟨w, hl, ht⟩ := r_text_by (k + 1) n n2 U
  have hz : w.length ≤ SZ := Nat.le_trans hl (by decide)
  have h1 := r_number_in (k + 1) w U hz
  have h2 := r_law_number (k + 2) w U hz
  refine ⟨.str w, numD w, .int (dueD w), ?_⟩
  simp only [turnF, asgT, fn_law_1]
  cases q : isNum w
  · have e1 : numD w = .non := by unfold numD; rw [q]; rfl
    have e2 : dueD w = -1 := by unfold dueD; rw [q]; rfl
    rw [e1] at h1 ⊢
    rw [e2] at h2 ⊢
    simp [execs, exec, ev, evs, evB, asgT, hm, hm2, ht, h1, h2, cmpop, tru, truth]
  · have e1 : numD w = .int (readN w) := by unfold numD; rw [q]; rfl
    have e2 : dueD w = readN w := by unfold dueD; rw [q]; rfl
    rw [e1] at h1 ⊢
    rw [e2] at h2 ⊢
    have e3 : ¬ ((readN w : Int) < 0) := by omega
    simp [execs, exec, ev, evs, evB, asgT, hm, hm2, ht, h1, h2, cmpop, tru, truth, e3, isInst, isInst1, tyN, someTypes, eqv, scalS, pyeq]
theorem law_loop (k : Nat) (U : Store) (a : D) : ∀ (xs : List Int) (o1 o2 o3 o4 : Option D), (∀ z ∈ xs, bits z ≤ 1048576) → ∃ ρ', forL (turnF (.var 1) (execs (run tab (k + 3)) fn_law_1)) (xs.map .int) [some a, o1, o2, o3, o4] U = some (.nx ρ' U)
  | [], o1, o2, o3, o4, _ => ⟨_, by simp [forL]; rfl⟩
  | x :: r, o1, o2, o3, o4, h => by
    obtain ⟨w, f, g, e⟩ := law_turn k x U a o1 o2 o3 o4 (h x (by simp))
    obtain ⟨ρ', e2⟩ := law_loop k U a r (some (.int x)) (some w) (some f) (some g) fun z hz => h z (by simp [hz])
    exact ⟨ρ', by rw [List.map_cons, forL, e, turnEnd_nx, e2]⟩
theorem plain_k02 (ns : List Int) (hl : ns.length ≤ 63) (hb : ∀ z ∈ ns, bits z ≤ 1048576) : ∃ U', run tab 12 "law" [.lst (ns.map .int)] [] = some (.ok (.bl true) U') := by
  refine ⟨[], ?_⟩
  have hz : ns.length + 1 ≤ SZ := Nat.le_trans (Nat.add_le_add_right hl 1) (by decide)
  obtain ⟨ρ', h⟩ := law_loop 8 [] (.lst (ns.map .int)) (ns ++ [(ns.length : Int)]) none none none none (fun z hz => by
    rcases List.mem_append.mp hz with hz | hz
    · exact hb z hz
    · simp only [List.mem_singleton] at hz
      subst hz
      exact bits_small (by omega))
  rw [List.map_append] at h
  rw [show (12 : Nat) = 11 + 1 from rfl, run_at tab_law rfl]
  simp only [fn_law, startR, execs, exec, evIt, ev, evs]
  simp [recvOk, prim, lenOf, asQ, asL, binop, addOp, mkL, hz, srcOf, forGo_fix, execs, exec, ev, evs]
  simp at h
  simp [h]
end VI

/-! VIb1: data of VIa and the hand layer's values: RepV (a datum behind a value, over the frozen part Z of the heap and the places β of the store), Rel (the store), how they grow. -/
namespace VI
open PySem PySem.Spec PyProof.Rows L2

theorem SZ_eq : SZ = sizeLine := by rw [sizeLine_eq]; rfl

/-! ### keys -/
def keyD : D → Option Key
  | .int i => some (.inl i)
  | .str x => some (.inr ⟨x.toArray⟩)
  | _ => none
def keysD : List D → Option (List Key)
  | [] => some []
  | x :: r => (match keyD x, keysD r with | some k, some s => some (k :: s) | _, _ => none)
theorem keyD_inj {a b : D} {k : Key} (h : keyD a = some k) (h' : keyD b = some k) : a = b := by
  cases a <;> cases b <;> simp_all [keyD]
  · subst h; simpa using h'.symm
  · subst h; simp at h'
  · subst h; simp at h'
  · subst h; simpa using h'.symm
theorem keysD_inj : ∀ {a b : List D} {k : List Key}, keysD a = some k → keysD b = some k → a = b
  | [], [], _, _, _ => rfl
  | [], y :: s, k, h, h' => by
    simp only [keysD, Option.some.injEq] at h
    subst h
    simp only [keysD] at h'
    split at h' <;> simp at h'
  | x :: r, [], k, h, h' => by
    simp only [keysD, Option.some.injEq] at h'
    subst h'
    simp only [keysD] at h
    split at h <;> simp at h
  | x :: r, y :: s, k, h, h' => by
    simp only [keysD] at h h'
    split at h <;> simp only [Option.some.injEq, reduceCtorEq] at h
    rename_i k1 s1 e1 e2
    subst h
    split at h' <;> simp only [Option.some.injEq, reduceCtorEq] at h'
    rename_i k2 s2 e3 e4
    injection h' with h1 h2
    subst h1 h2
    rw [keyD_inj e1 e3, keysD_inj e2 e4]
theorem keyD_of_flat {d : D} (h : flatK d = true) : ∃ k, keyD d = some k := by
  cases d <;> simp [flatK] at h
  · exact ⟨_, rfl⟩
  · exact ⟨_, rfl⟩
theorem flat_of_keyD {d : D} {k : Key} (h : keyD d = some k) : flatK d = true := by
  cases d <;> simp [keyD] at h <;> rfl
theorem keysD_of_flat : ∀ {ds : List D}, ds.all flatK = true → ∃ ks, keysD ds = some ks
  | [], _ => ⟨[], rfl⟩
  | x :: r, h => by
    simp only [List.all_cons, Bool.and_eq_true] at h
    obtain ⟨k, e⟩ := keyD_of_flat h.1
    obtain ⟨ks, e'⟩ := keysD_of_flat h.2
    exact ⟨k :: ks, by simp [keysD, e, e']⟩
theorem flat_of_keysD : ∀ {ds : List D} {ks : List Key}, keysD ds = some ks → ds.all flatK = true
  | [], _, _ => rfl
  | x :: r, ks, h => by
    simp only [keysD] at h
    split at h <;> simp only [Option.some.injEq, reduceCtorEq] at h
    rename_i k s e1 e2
    simp [flat_of_keyD e1, flat_of_keysD e2]

/-! ### keys that are tuples -/
mutual
def nk : D → NestedKey
  | .int i => .num i
  | .str x => .text ⟨x.toArray⟩
  | .tup xs => .tup (nkL xs)
  | _ => .none
def nkL : List D → List NestedKey
  | [] => []
  | x :: r => nk x :: nkL r
end
theorem nk_flat_inj {a b : D} (h : flatK a = true) (h' : flatK b = true) (e : nk a = nk b) : a = b := by
  cases a <;> simp [flatK] at h <;> cases b <;> simp [flatK] at h' <;> simp_all [nk]
theorem nkL_flat_inj : ∀ {a b : List D}, a.all flatK = true → b.all flatK = true → nkL a = nkL b → a = b
  | [], [], _, _, _ => rfl
  | [], _ :: _, _, _, e => by simp [nkL] at e
  | _ :: _, [], _, _, e => by simp [nkL] at e
  | x :: r, y :: s, h, h', e => by
    simp only [List.all_cons, Bool.and_eq_true] at h h'
    simp only [nkL, List.cons.injEq] at e
    rw [nk_flat_inj h.1 h'.1 e.1, nkL_flat_inj h.2 h'.2 e.2]
theorem nk_tup_inj {a b : D} (h : tupK a = true) (h' : tupK b = true) (e : nk a = nk b) : a = b := by
  cases a <;> simp only [tupK, Bool.false_eq_true] at h
  cases b <;> simp only [tupK, Bool.false_eq_true] at h'
  simp only [nk, NestedKey.tup.injEq] at e
  rw [nkL_flat_inj h h' e]
theorem pairK_shape {a : D} (h : pairK a = true) : ∃ x y, a = .tup [x, y] ∧ tupK x = true ∧ tupK y = true := by
  unfold pairK at h
  split at h
  · simp only [Bool.and_eq_true] at h
    exact ⟨_, _, rfl, h.1, h.2⟩
  · cases h
theorem tupK_shape {a : D} (h : tupK a = true) : ∃ xs, a = .tup xs ∧ xs.all flatK = true := by
  cases a <;> simp only [tupK, Bool.false_eq_true] at h
  exact ⟨_, rfl, h⟩
theorem nk_inj {a b : D} (h : keyFor 1 a = true) (h' : keyFor 1 b = true) (e : nk a = nk b) : a = b := by
  simp only [keyFor, Bool.or_eq_true] at h h'
  rcases h with h | h <;> rcases h' with h' | h'
  · exact nk_tup_inj h h' e
  · exfalso
    obtain ⟨xs, rfl, hf⟩ := tupK_shape h
    obtain ⟨y1, y2, rfl, h1, h2⟩ := pairK_shape h'
    obtain ⟨zs, rfl, h1⟩ := tupK_shape h1
    simp only [nk, nkL, NestedKey.tup.injEq] at e
    cases xs with
    | nil => simp [nkL] at e
    | cons x r =>
      rw [List.all_cons, Bool.and_eq_true] at hf
      simp only [nkL, List.cons.injEq] at e
      have hf := hf.1
      have e := e.1
      cases x <;> simp [flatK] at hf <;> simp [nk] at e
  · exfalso
    obtain ⟨xs, rfl, hf⟩ := tupK_shape h'
    obtain ⟨y1, y2, rfl, h1, h2⟩ := pairK_shape h
    obtain ⟨zs, rfl, h1⟩ := tupK_shape h1
    simp only [nk, nkL, NestedKey.tup.injEq] at e
    cases xs with
    | nil => simp [nkL] at e
    | cons x r =>
      rw [List.all_cons, Bool.and_eq_true] at hf
      simp only [nkL, List.cons.injEq] at e
      have hf := hf.1
      have e := e.1
      cases x <;> simp [flatK] at hf <;> simp [nk] at e
  · obtain ⟨x1, x2, rfl, h1, h2⟩ := pairK_shape h
    obtain ⟨y1, y2, rfl, g1, g2⟩ := pairK_shape h'
    simp only [nk, nkL, NestedKey.tup.injEq, List.cons.injEq] at e
    rw [nk_tup_inj h1 g1 e.1, nk_tup_inj h2 g2 e.2.1]
theorem flat_depth {a : D} (h : flatK a = true) : (nk a).depth = 0 := by
  cases a <;> simp [flatK] at h <;> simp [nk, NestedKey.depth]
theorem flatL_depth : ∀ {a : List D}, a.all flatK = true → NestedKey.depthAll (nkL a) = 0
  | [], _ => by simp [nkL, NestedKey.depthAll]
  | x :: r, h => by
    simp only [List.all_cons, Bool.and_eq_true] at h
    simp only [nkL, NestedKey.depthAll, flat_depth h.1, flatL_depth h.2]
    omega
theorem tupK_depth {a : D} (h : tupK a = true) : (nk a).depth ≤ 1 := by
  obtain ⟨xs, rfl, h⟩ := tupK_shape h
  simp only [nk, NestedKey.depth, flatL_depth h]
  omega
theorem key1_depth {a : D} (h : keyFor 1 a = true) : (nk a).depth ≤ 8 := by
  simp only [keyFor, Bool.or_eq_true] at h
  rcases h with h | h
  · have := tupK_depth h
    omega
  · obtain ⟨x, y, rfl, h1, h2⟩ := pairK_shape h
    have := tupK_depth h1
    have := tupK_depth h2
    simp only [nk, nkL, NestedKey.depth, NestedKey.depthAll]
    omega
/-- at a stands a dict with these entries: keys that are tuples -/
def dN (P : Program) (w : World) (a : Addr) (xs : List (NestedKey × Addr × Value)) : HO :=
  .ext fun h => (a == sysModules) = false ∧ xs.length ≤ sizeLine ∧ ∃ o es ep, h.get? a = some o ∧ o.ExactDict ∧ o.data = .dict es ep ∧ es.toList = xs.map (entryOfKey (nestedKind P w))

/-! ### a datum behind a value -/
section
variable (P : Program) (w : World) (K : PySem.W.Frag) (Z : Hp) (β : List Addr)
mutual
def RepV : D → V → Prop
  | .non, v => v = .non
  | .bl b, v => v = .bl b
  | .int i, v => v = .int i
  | .str x, v => v = .str ⟨x.toArray⟩
  | .tup xs, v => ∃ a vs, v = .ref a ∧ SqT K Z a vs ∧ RepL xs vs
  | .lst xs, v => ∃ a vs, v = .ref a ∧ SqL K Z a vs ∧ RepL xs vs
  | .dct t kvs, v => ∃ a, v = .ref a ∧ ((t = 0 ∧ ∃ l, Z a = some (.dK l) ∧ RepK kvs l) ∨ (t = 1 ∧ ∃ l, Z a = some (dN P w a l) ∧ (l.map (·.1)).Nodup ∧ RepT kvs l))
  | .ref n, v => ∃ a, v = .ref a ∧ β[n]? = some a
  | .exn _ _, _ => False
def RepL : List D → List V → Prop
  | [], vs => vs = []
  | x :: r, vs => ∃ v s, vs = v :: s ∧ RepV x v ∧ RepL r s
def RepK : List (D × D) → List (Key × V) → Prop
  | [], l => l = []
  | (k, x) :: r, l => ∃ kk v s, l = (kk, v) :: s ∧ keyD k = some kk ∧ RepV x v ∧ RepK r s
def RepT : List (D × D) → List (NestedKey × Addr × Value) → Prop
  | [], l => l = []
  | (k, x) :: r, l => ∃ b u v s, l = (nk k, b, u) :: s ∧ keyFor 1 k = true ∧ RepV k (.ref b) ∧ RelV v u ∧ RepV x v ∧ RepT r s
end
end
/-- Z' has all of Z -/
def ZLe (Z Z' : Hp) : Prop := ∀ a o, Z a = some o → Z' a = some o
theorem ZLe.refl (Z : Hp) : ZLe Z Z := fun _ _ h => h
theorem ZLe.trans {Z Z' Z'' : Hp} (h : ZLe Z Z') (h' : ZLe Z' Z'') : ZLe Z Z'' := fun a o e => h' a o (h a o e)
theorem Rd.le {Z Z' : Hp} {a : Addr} {u : HO} (z : ZLe Z Z') (h : Rd Z a u) : Rd Z' a u := by
  rcases h with h | ⟨o, h⟩
  · exact .inl (z _ _ h)
  · exact .inr ⟨o, z _ _ h⟩
theorem SqL.le {K : PySem.W.Frag} {Z Z' : Hp} {a : Addr} {xs : List V} (z : ZLe Z Z') (h : SqL K Z a xs) : SqL K Z' a xs := by
  rcases h with h | h
  · exact .inl (Rd.le z h)
  · exact .inr h
theorem SqT.le {K : PySem.W.Frag} {Z Z' : Hp} {a : Addr} {xs : List V} (z : ZLe Z Z') (h : SqT K Z a xs) : SqT K Z' a xs := by
  rcases h with h | h
  · exact .inl (Rd.le z h)
  · exact .inr h
def BLe (β β' : List Addr) : Prop := ∃ γ, β' = β ++ γ
theorem BLe.refl (β : List Addr) : BLe β β := ⟨[], by simp⟩
theorem BLe.trans {β β' β'' : List Addr} (h : BLe β β') (h' : BLe β' β'') : BLe β β'' := by
  obtain ⟨γ, rfl⟩ := h
  obtain ⟨δ, rfl⟩ := h'
  exact ⟨γ ++ δ, by simp⟩
theorem BLe.get {β β' : List Addr} (h : BLe β β') {n : Nat} {a : Addr} (e : β[n]? = some a) : β'[n]? = some a := by
  obtain ⟨γ, rfl⟩ := h
  obtain ⟨hn, e'⟩ := List.getElem?_eq_some_iff.mp e
  rw [List.getElem?_append_left hn, e]
section
variable {P : Program} {w : World} {K : PySem.W.Frag} {Z Z' : Hp} {β β' : List Addr}
mutual
theorem RepV.mono (z : ZLe Z Z') (b : BLe β β') : ∀ {d : D} {v : V}, RepV P w K Z β d v → RepV P w K Z' β' d v
  | .non, v, h => by simpa only [RepV] using h
  | .bl _, v, h => by simpa only [RepV] using h
  | .int _, v, h => by simpa only [RepV] using h
  | .str _, v, h => by simpa only [RepV] using h
  | .tup xs, v, h => by
    simp only [RepV] at h ⊢
    obtain ⟨a, vs, e, s, r⟩ := h
    exact ⟨a, vs, e, SqT.le z s, RepL.mono z b r⟩
  | .lst xs, v, h => by
    simp only [RepV] at h ⊢
    obtain ⟨a, vs, e, s, r⟩ := h
    exact ⟨a, vs, e, SqL.le z s, RepL.mono z b r⟩
  | .dct t kvs, v, h => by
    simp only [RepV] at h ⊢
    obtain ⟨a, e, h⟩ := h
    refine ⟨a, e, ?_⟩
    rcases h with ⟨hn, l, h1, h2⟩ | ⟨hn, l, h1, h0, h2⟩
    · exact .inl ⟨hn, l, z _ _ h1, RepK.mono z b h2⟩
    · exact .inr ⟨hn, l, z _ _ h1, h0, RepT.mono z b h2⟩
  | .ref n, v, h => by
    simp only [RepV] at h ⊢
    obtain ⟨a, e, h⟩ := h
    exact ⟨a, e, b.get h⟩
  | .exn _ _, v, h => by simp only [RepV] at h
theorem RepL.mono (z : ZLe Z Z') (b : BLe β β') : ∀ {ds : List D} {vs : List V}, RepL P w K Z β ds vs → RepL P w K Z' β' ds vs
  | [], vs, h => by simpa only [RepL] using h
  | x :: r, vs, h => by
    simp only [RepL] at h ⊢
    obtain ⟨v, s, e, h1, h2⟩ := h
    exact ⟨v, s, e, RepV.mono z b h1, RepL.mono z b h2⟩
theorem RepK.mono (z : ZLe Z Z') (b : BLe β β') : ∀ {ds : List (D × D)} {vs : List (Key × V)}, RepK P w K Z β ds vs → RepK P w K Z' β' ds vs
  | [], vs, h => by simpa only [RepK] using h
  | (k, x) :: r, vs, h => by
    simp only [RepK] at h ⊢
    obtain ⟨kk, v, s, e, h0, h1, h2⟩ := h
    exact ⟨kk, v, s, e, h0, RepV.mono z b h1, RepK.mono z b h2⟩
theorem RepT.mono (z : ZLe Z Z') (b : BLe β β') : ∀ {ds : List (D × D)} {vs : List (NestedKey × Addr × Value)}, RepT P w K Z β ds vs → RepT P w K Z' β' ds vs
  | [], vs, h => by simpa only [RepT] using h
  | (k, x) :: r, vs, h => by
    simp only [RepT] at h ⊢
    obtain ⟨c, u, v, s, e, h0, hk, hr, h1, h2⟩ := h
    exact ⟨c, u, v, s, e, h0, RepV.mono z b hk, hr, RepV.mono z b h1, RepT.mono z b h2⟩
end
theorem RepL.nil : RepL P w K Z β [] [] := by simp only [RepL]
theorem RepL.cons {x : D} {v : V} {r : List D} {s : List V} (h : RepV P w K Z β x v) (h' : RepL P w K Z β r s) : RepL P w K Z β (x :: r) (v :: s) := by
  simp only [RepL]
  exact ⟨v, s, rfl, h, h'⟩
theorem RepL.length : ∀ {ds : List D} {vs : List V}, RepL P w K Z β ds vs → ds.length = vs.length
  | [], vs, h => by
    simp only [RepL] at h
    subst h
    rfl
  | x :: r, vs, h => by
    simp only [RepL] at h
    obtain ⟨v, s, rfl, _, h2⟩ := h
    simp [RepL.length h2]
theorem RepL.get : ∀ {ds : List D} {vs : List V} {i : Nat} {d : D}, RepL P w K Z β ds vs → ds[i]? = some d → ∃ v, vs[i]? = some v ∧ RepV P w K Z β d v
  | [], _, _, _, _, h => by simp at h
  | x :: r, vs, 0, d, h, e => by
    simp only [RepL] at h
    obtain ⟨v, s, rfl, h1, _⟩ := h
    simp only [List.getElem?_cons_zero, Option.some.injEq] at e
    subst e
    exact ⟨v, rfl, h1⟩
  | x :: r, vs, i + 1, d, h, e => by
    simp only [RepL] at h
    obtain ⟨v, s, rfl, _, h2⟩ := h
    simp only [List.getElem?_cons_succ] at e ⊢
    exact RepL.get h2 e
theorem RepL.getV : ∀ {ds : List D} {vs : List V} {i : Nat} {v : V}, RepL P w K Z β ds vs → vs[i]? = some v → ∃ d, ds[i]? = some d ∧ RepV P w K Z β d v
  | [], vs, _, _, h, e => by
    simp only [RepL] at h
    subst h
    simp at e
  | x :: r, vs, 0, d, h, e => by
    simp only [RepL] at h
    obtain ⟨v, s, rfl, h1, _⟩ := h
    simp only [List.getElem?_cons_zero, Option.some.injEq] at e
    subst e
    exact ⟨x, rfl, h1⟩
  | x :: r, vs, i + 1, d, h, e => by
    simp only [RepL] at h
    obtain ⟨v, s, rfl, _, h2⟩ := h
    simp only [List.getElem?_cons_succ] at e ⊢
    exact RepL.getV h2 e
theorem RepL.append : ∀ {ds es : List D} {vs ws : List V}, RepL P w K Z β ds vs → RepL P w K Z β es ws → RepL P w K Z β (ds ++ es) (vs ++ ws)
  | [], _, vs, _, h, h' => by
    simp only [RepL] at h
    subst h
    exact h'
  | x :: r, _, vs, _, h, h' => by
    simp only [RepL] at h
    obtain ⟨v, s, rfl, h1, h2⟩ := h
    exact RepL.cons h1 (RepL.append h2 h')
theorem RepL.take : ∀ {ds : List D} {vs : List V} (n : Nat), RepL P w K Z β ds vs → RepL P w K Z β (ds.take n) (vs.take n)
  | ds, vs, 0, h => by simp only [List.take_zero]; exact RepL.nil
  | [], vs, n + 1, h => by
    simp only [RepL] at h
    subst h
    exact RepL.nil
  | x :: r, vs, n + 1, h => by
    simp only [RepL] at h
    obtain ⟨v, s, rfl, h1, h2⟩ := h
    exact RepL.cons h1 (RepL.take n h2)
theorem RepL.drop : ∀ {ds : List D} {vs : List V} (n : Nat), RepL P w K Z β ds vs → RepL P w K Z β (ds.drop n) (vs.drop n)
  | ds, vs, 0, h => by simpa using h
  | [], vs, n + 1, h => by
    simp only [RepL] at h
    subst h
    exact RepL.nil
  | x :: r, vs, n + 1, h => by
    simp only [RepL] at h
    obtain ⟨v, s, rfl, h1, h2⟩ := h
    exact RepL.drop n h2
theorem RepL.reverse {ds : List D} {vs : List V} (h : RepL P w K Z β ds vs) : RepL P w K Z β ds.reverse vs.reverse := by
  induction ds generalizing vs with
  | nil =>
    simp only [RepL] at h
    subst h
    exact RepL.nil
  | cons x r ih =>
    simp only [RepL] at h
    obtain ⟨v, s, rfl, h1, h2⟩ := h
    rw [List.reverse_cons, List.reverse_cons]
    exact RepL.append (ih h2) (RepL.cons h1 RepL.nil)
theorem RepL.set : ∀ {ds : List D} {vs : List V} {i : Nat} {d : D} {v : V}, RepL P w K Z β ds vs → RepV P w K Z β d v → RepL P w K Z β (ds.set i d) (vs.set i v)
  | [], vs, i, d, v, h, r => by
    simp only [RepL] at h
    subst h
    exact RepL.nil
  | x :: t, vs, 0, d, v, h, r => by
    simp only [RepL] at h
    obtain ⟨w', s, rfl, h1, h2⟩ := h
    exact RepL.cons r h2
  | x :: t, vs, i + 1, d, v, h, r => by
    simp only [RepL] at h
    obtain ⟨w', s, rfl, h1, h2⟩ := h
    exact RepL.cons h1 (RepL.set h2 r)
theorem RepL.eraseIdx : ∀ {ds : List D} {vs : List V} {i : Nat}, RepL P w K Z β ds vs → RepL P w K Z β (ds.eraseIdx i) (vs.eraseIdx i)
  | [], vs, i, h => by
    simp only [RepL] at h
    subst h
    exact RepL.nil
  | x :: t, vs, 0, h => by
    simp only [RepL] at h
    obtain ⟨w', s, rfl, h1, h2⟩ := h
    exact h2
  | x :: t, vs, i + 1, h => by
    simp only [RepL] at h
    obtain ⟨w', s, rfl, h1, h2⟩ := h
    exact RepL.cons h1 (RepL.eraseIdx h2)
theorem RepL.ints : ∀ (ns : List Int), RepL P w K Z β (ns.map .int) (ns.map V.int)
  | [] => RepL.nil
  | n :: r => RepL.cons (by simp only [RepV]) (RepL.ints r)
theorem RepL.isInts : ∀ {ns : List Int} {vs : List V}, RepL P w K Z β (ns.map .int) vs → vs = ns.map V.int
  | [], vs, h => by simpa only [List.map_nil, RepL] using h
  | n :: r, vs, h => by
    simp only [List.map_cons, RepL, RepV] at h
    obtain ⟨v, s, rfl, rfl, h2⟩ := h
    rw [RepL.isInts h2, List.map_cons]
end
/-! ### the store -/
section
variable (P : Program) (w : World) (K : PySem.W.Frag) (mg : Str → Option Value) (Φ : List (Addr × HO)) (Z : Hp) (β : List Addr)
def RepF : List (String × D) → List (Str × V) → Prop
  | [], l => l = []
  | (f, x) :: r, l => ∃ v s, l = (Str.ofString f, v) :: s ∧ RepV P w K Z β x v ∧ RepF r s
/-- the object o stands at a -/
def RepO (H : Hp) : MO → Addr → Prop
  | .lst xs, a => ∃ vs, H a = some (.lst vs) ∧ RepL P w K Z β xs vs
  | .dct t kvs, a => (t = 0 ∧ ∃ l, H a = some (.dK l) ∧ RepK P w K Z β kvs l) ∨ (t = 1 ∧ ∃ l, H a = some (dN P w a l) ∧ (l.map (·.1)).Nodup ∧ RepT P w K Z β kvs l)
  | .ins c fs, a => ∃ C dx l, mg (Str.ofString c) = some (.ref C) ∧ H a = some (.ins C dx l) ∧ RepF P w K Z β fs l
structure Rel (U : Store) (H : Hp) : Prop where
  zle : ZLe Z H
  len : β.length = U.length
  nd : β.Nodup
  sep : ∀ a ∈ β, Z a = none
  obj : ∀ (n : Nat) (o : MO) (a : Addr), U[n]? = some o → β[n]? = some a → RepO P w K mg Z β H o a
  ext : ∀ q ∈ Φ, H q.1 = some q.2 ∧ Z q.1 = none ∧ q.1 ∉ β
end
section
variable {P : Program} {w : World} {K : PySem.W.Frag} {mg : Str → Option Value} {Φ : List (Addr × HO)} {Z Z' : Hp} {β β' : List Addr} {U : Store} {H : Hp}
theorem RepF.mono (z : ZLe Z Z') (b : BLe β β') : ∀ {fs : List (String × D)} {l : List (Str × V)}, RepF P w K Z β fs l → RepF P w K Z' β' fs l
  | [], l, h => h
  | (f, x) :: r, l, h => by
    obtain ⟨v, s, e, h1, h2⟩ := h
    exact ⟨v, s, e, RepV.mono z b h1, RepF.mono z b h2⟩
theorem RepO.mono {H' : Hp} (z : ZLe Z Z') (b : BLe β β') {o : MO} {a : Addr} (h : RepO P w K mg Z β H o a) (k : H' a = H a) : RepO P w K mg Z' β' H' o a := by
  cases o with
  | lst xs =>
    obtain ⟨vs, e, r⟩ := h
    exact ⟨vs, k.trans e, RepL.mono z b r⟩
  | dct t kvs =>
    rcases h with ⟨hn, l, e, r⟩ | ⟨hn, l, e, hd, r⟩
    · exact .inl ⟨hn, l, k.trans e, RepK.mono z b r⟩
    · exact .inr ⟨hn, l, k.trans e, hd, RepT.mono z b r⟩
  | ins c fs =>
    obtain ⟨C, dx, l, hc, e, r⟩ := h
    exact ⟨C, dx, l, hc, k.trans e, RepF.mono z b r⟩
theorem RepO.some {o : MO} {a : Addr} (h : RepO P w K mg Z β H o a) : ∃ u, H a = some u := by
  cases o with
  | lst xs => obtain ⟨vs, e, r⟩ := h; exact ⟨_, e⟩
  | dct t kvs =>
    rcases h with ⟨hn, l, e, r⟩ | ⟨hn, l, e, r⟩
    · exact ⟨_, e⟩
    · exact ⟨_, e⟩
  | ins c fs => obtain ⟨C, dx, l, hc, e, r⟩ := h; exact ⟨_, e⟩
theorem Rel.at (R : Rel P w K mg Φ Z β U H) {n : Nat} {o : MO} (e : U[n]? = some o) : ∃ a, β[n]? = some a ∧ RepO P w K mg Z β H o a := by
  have hn : n < β.length := by
    rw [R.len]
    exact (List.getElem?_eq_some_iff.mp e).1
  exact ⟨β[n], List.getElem?_eq_getElem hn, R.obj n o _ e (List.getElem?_eq_getElem hn)⟩
theorem Rel.ref (R : Rel P w K mg Φ Z β U H) {n : Nat} {o : MO} {a : Addr} (e : U[n]? = some o) (h : β[n]? = some a) : RepO P w K mg Z β H o a := R.obj n o a e h
theorem Rel.notZ (R : Rel P w K mg Φ Z β U H) {n : Nat} {a : Addr} (h : β[n]? = some a) : Z a = none := R.sep a (List.mem_of_getElem? h)
theorem Rel.fresh (R : Rel P w K mg Φ Z β U H) {p : Addr} (h : H p = none) : Z p = none ∧ p ∉ β := by
  refine ⟨?_, fun hm => ?_⟩
  · cases e : Z p with
    | none => rfl
    | some o =>
      have := R.zle _ _ e
      rw [h] at this
      cases this
  · obtain ⟨n, hn, e⟩ := List.mem_iff_getElem.mp hm
    have hU : n < U.length := by rw [← R.len]; exact hn
    have e1 : β[n]? = some p := by rw [List.getElem?_eq_getElem hn, e]
    obtain ⟨u, hu⟩ := (R.obj n _ p (List.getElem?_eq_getElem hU) e1).some
    rw [h] at hu
    cases hu
/-- a new frozen object -/
theorem Rel.froze (R : Rel P w K mg Φ Z β U H) {p : Addr} (h : H p = none) (o : HO) : Rel P w K mg Φ (L2.upd Z p o) β U (L2.upd H p o) ∧ ZLe Z (L2.upd Z p o) := by
  obtain ⟨hz, hb⟩ := R.fresh h
  have le : ZLe Z (L2.upd Z p o) := fun a u e => by
    rw [L2.upd_ne (fun q => by subst q; rw [hz] at e; cases e)]
    exact e
  refine ⟨⟨fun a u e => ?_, R.len, R.nd, fun a ha => ?_, fun n m a e1 e2 => ?_, fun q hq => ?_⟩, le⟩
  · by_cases q : a = p
    · subst q
      rw [upd_same] at e ⊢
      exact e
    · rw [upd_ne q] at e ⊢
      exact R.zle a u e
  · rw [upd_ne (fun q => hb (by rw [← q]; exact ha))]
    exact R.sep a ha
  · have ha : a ≠ p := fun q => hb (by rw [← q]; exact List.mem_of_getElem? e2)
    exact (R.obj n m a e1 e2).mono le (BLe.refl β) (upd_ne ha)
  · obtain ⟨q1, q2, q3⟩ := R.ext q hq
    have hq : q.1 ≠ p := fun z => by rw [z, h] at q1; cases q1
    rw [upd_ne hq, upd_ne hq]
    exact ⟨q1, q2, q3⟩
/-- a new object of the store -/
theorem Rel.push (R : Rel P w K mg Φ Z β U H) {p : Addr} (h : H p = none) {u : HO} {o : MO} (hr : RepO P w K mg Z (β ++ [p]) (L2.upd H p u) o p) : Rel P w K mg Φ Z (β ++ [p]) (U ++ [o]) (L2.upd H p u) ∧ BLe β (β ++ [p]) := by
  obtain ⟨hz, hb⟩ := R.fresh h
  have le : BLe β (β ++ [p]) := ⟨[p], rfl⟩
  refine ⟨⟨fun a u' e => ?_, by simp [R.len], ?_, fun a ha => ?_, fun n m a e1 e2 => ?_, fun q hq => ?_⟩, le⟩
  · rw [L2.upd_ne (fun q => by subst q; rw [hz] at e; cases e)]
    exact R.zle a u' e
  · rw [List.nodup_append]
    refine ⟨R.nd, by simp, fun a ha b hb' => ?_⟩
    simp only [List.mem_singleton] at hb'
    subst hb'
    exact fun q => hb (q ▸ ha)
  · rcases List.mem_append.mp ha with ha | ha
    · exact R.sep a ha
    · simp only [List.mem_singleton] at ha
      subst ha
      exact hz
  · by_cases hn : n < U.length
    · rw [List.getElem?_append_left hn] at e1
      rw [List.getElem?_append_left (by rw [R.len]; exact hn)] at e2
      have ha : a ≠ p := fun q => hb (by rw [← q]; exact List.mem_of_getElem? e2)
      exact (R.obj n m a e1 e2).mono (ZLe.refl Z) le (L2.upd_ne ha)
    · have hn2 : n < (U ++ [o]).length := (List.getElem?_eq_some_iff.mp e1).1
      have hn3 : n = U.length := by
        rw [List.length_append] at hn2
        simp at hn2
        omega
      subst hn3
      rw [List.getElem?_append_right (Nat.le_refl _)] at e1
      rw [List.getElem?_append_right (by rw [R.len]; exact Nat.le_refl _)] at e2
      simp [R.len] at e1 e2
      subst e1 e2
      exact hr
  · obtain ⟨q1, q2, q3⟩ := R.ext q hq
    have hq : q.1 ≠ p := fun z => by rw [z, h] at q1; cases q1
    rw [L2.upd_ne hq]
    exact ⟨q1, q2, by simp [q3, hq]⟩
/-- an object of the store changes -/
theorem Rel.write (R : Rel P w K mg Φ Z β U H) {n : Nat} {a : Addr} (e : β[n]? = some a) {u : HO} {o : MO} (hr : RepO P w K mg Z β (L2.upd H a u) o a) : Rel P w K mg Φ Z β (U.set n o) (L2.upd H a u) := by
  have hz : Z a = none := R.notZ e
  refine ⟨fun b u' q => ?_, by simp [R.len], R.nd, R.sep, fun m o' b e1 e2 => ?_, fun q hq => ?_⟩
  · rw [L2.upd_ne (fun z => by subst z; rw [hz] at q; cases q)]
    exact R.zle b u' q
  · by_cases hm : m = n
    · subst hm
      rw [e] at e2
      cases e2
      have hn : m < U.length := by
        rw [← R.len]
        exact (List.getElem?_eq_some_iff.mp e).1
      rw [List.getElem?_set_self hn] at e1
      cases e1
      exact hr
    · rw [List.getElem?_set_ne (fun q => hm q.symm)] at e1
      have hb : b ≠ a := fun q => by
        subst q
        obtain ⟨h1, q1⟩ := List.getElem?_eq_some_iff.mp e
        obtain ⟨h2, q2⟩ := List.getElem?_eq_some_iff.mp e2
        exact hm ((List.getElem_inj R.nd).mp (q2.trans q1.symm))
      exact (R.obj m o' b e1 e2).mono (ZLe.refl Z) (BLe.refl β) (L2.upd_ne hb)
  · obtain ⟨q1, q2, q3⟩ := R.ext q hq
    have hq : q.1 ≠ a := fun z => q3 (z ▸ List.mem_of_getElem? e)
    rw [L2.upd_ne hq]
    exact ⟨q1, q2, q3⟩
/-- an object that is not the store's: put aside, and changed -/
theorem Rel.aside (R : Rel P w K mg Φ Z β U H) {p : Addr} (h : H p = none) (o : HO) : Rel P w K mg ((p, o) :: Φ) Z β U (L2.upd H p o) := by
  obtain ⟨hz, hb⟩ := R.fresh h
  refine ⟨fun a u e => ?_, R.len, R.nd, R.sep, fun n m a e1 e2 => ?_, fun q hq => ?_⟩
  · rw [L2.upd_ne (fun q => by subst q; rw [hz] at e; cases e)]
    exact R.zle a u e
  · exact (R.obj n m a e1 e2).mono (ZLe.refl Z) (BLe.refl β) (L2.upd_ne fun q => hb (q ▸ List.mem_of_getElem? e2))
  · rcases List.mem_cons.mp hq with rfl | hq
    · exact ⟨L2.upd_same, hz, hb⟩
    · obtain ⟨q1, q2, q3⟩ := R.ext q hq
      rw [L2.upd_ne (fun z => by rw [z, h] at q1; cases q1)]
      exact ⟨q1, q2, q3⟩
theorem Rel.aside2 {p : Addr} {o : HO} (R : Rel P w K mg ((p, o) :: Φ) Z β U H) (hn : ∀ q ∈ Φ, q.1 ≠ p) (o' : HO) : Rel P w K mg ((p, o') :: Φ) Z β U (L2.upd H p o') := by
  obtain ⟨h1, hz, hb⟩ := R.ext (p, o) (by simp)
  refine ⟨fun a u e => ?_, R.len, R.nd, R.sep, fun n m a e1 e2 => ?_, fun q hq => ?_⟩
  · rw [L2.upd_ne (fun q => by subst q; rw [hz] at e; cases e)]
    exact R.zle a u e
  · exact (R.obj n m a e1 e2).mono (ZLe.refl Z) (BLe.refl β) (L2.upd_ne fun q => hb (q ▸ List.mem_of_getElem? e2))
  · rcases List.mem_cons.mp hq with rfl | hq
    · exact ⟨L2.upd_same, hz, hb⟩
    · obtain ⟨q1, q2, q3⟩ := R.ext q (by simp [hq])
      rw [L2.upd_ne (hn q hq)]
      exact ⟨q1, q2, q3⟩
theorem Rel.drop {q : Addr × HO} (R : Rel P w K mg (q :: Φ) Z β U H) : Rel P w K mg Φ Z β U H := ⟨R.zle, R.len, R.nd, R.sep, R.obj, fun p hp => R.ext p (by simp [hp])⟩
/-- what was put aside is frozen -/
theorem Rel.settle {p : Addr} {o : HO} (R : Rel P w K mg ((p, o) :: Φ) Z β U H) (hn : ∀ q ∈ Φ, q.1 ≠ p) : Rel P w K mg Φ (L2.upd Z p o) β U H ∧ ZLe Z (L2.upd Z p o) := by
  obtain ⟨h1, hz, hb⟩ := R.ext (p, o) (by simp)
  have le : ZLe Z (L2.upd Z p o) := fun a u e => by
    rw [L2.upd_ne (fun q => by subst q; rw [hz] at e; cases e)]
    exact e
  refine ⟨⟨fun a u e => ?_, R.len, R.nd, fun a ha => ?_, fun n m a e1 e2 => ?_, fun q hq => ?_⟩, le⟩
  · by_cases q : a = p
    · subst q
      rw [upd_same] at e
      cases e
      exact h1
    · rw [upd_ne q] at e
      exact R.zle a u e
  · rw [upd_ne (fun q => hb (by rw [← q]; exact ha))]
    exact R.sep a ha
  · exact (R.obj n m a e1 e2).mono le (BLe.refl β) rfl
  · obtain ⟨q1, q2, q3⟩ := R.ext q (by simp [hq])
    rw [upd_ne (hn q hq)]
    exact ⟨q1, q2, q3⟩
/-- what was put aside goes to the store -/
theorem Rel.adopt {p : Addr} {u : HO} (R : Rel P w K mg ((p, u) :: Φ) Z β U H) (hn : ∀ q ∈ Φ, q.1 ≠ p) {o : MO} (hr : RepO P w K mg Z (β ++ [p]) H o p) : Rel P w K mg Φ Z (β ++ [p]) (U ++ [o]) H ∧ BLe β (β ++ [p]) := by
  obtain ⟨h1, hz, hb⟩ := R.ext (p, u) (by simp)
  have le : BLe β (β ++ [p]) := ⟨[p], rfl⟩
  refine ⟨⟨R.zle, by simp [R.len], ?_, fun a ha => ?_, fun n m a e1 e2 => ?_, fun q hq => ?_⟩, le⟩
  · rw [List.nodup_append]
    refine ⟨R.nd, by simp, fun a ha b hb' => ?_⟩
    simp only [List.mem_singleton] at hb'
    subst hb'
    exact fun q => hb (q ▸ ha)
  · rcases List.mem_append.mp ha with ha | ha
    · exact R.sep a ha
    · simp only [List.mem_singleton] at ha
      subst ha
      exact hz
  · by_cases hn : n < U.length
    · rw [List.getElem?_append_left hn] at e1
      rw [List.getElem?_append_left (by rw [R.len]; exact hn)] at e2
      exact (R.obj n m a e1 e2).mono (ZLe.refl Z) le rfl
    · have hn2 : n < (U ++ [o]).length := (List.getElem?_eq_some_iff.mp e1).1
      have hn3 : n = U.length := by
        rw [List.length_append] at hn2
        simp at hn2
        omega
      subst hn3
      rw [List.getElem?_append_right (Nat.le_refl _)] at e1
      rw [List.getElem?_append_right (by rw [R.len]; exact Nat.le_refl _)] at e2
      simp [R.len] at e1 e2
      subst e1 e2
      exact hr
  · obtain ⟨q1, q2, q3⟩ := R.ext q (by simp [hq])
    exact ⟨q1, q2, by simp [q3, hn q hq]⟩
end
/-! ### lists and tuples, frozen or in the store -/
section
variable {P : Program} {w : World} {K : PySem.W.Frag} {mg : Str → Option Value} {Φ : List (Addr × HO)} {Z : Hp} {β : List Addr} {U : Store} {H : Hp}
theorem Rel.list (R : Rel P w K mg Φ Z β U H) {d : D} {xs : List D} {v : V} (h : asL U d = some xs) (r : RepV P w K Z β d v) : ∃ a vs, v = .ref a ∧ SqL K H a vs ∧ RepL P w K Z β xs vs := by
  cases d <;> simp only [asL, reduceCtorEq] at h
  · cases h
    simp only [RepV] at r
    obtain ⟨a, vs, e, s, q⟩ := r
    exact ⟨a, vs, e, SqL.le R.zle s, q⟩
  · simp only [RepV] at r
    obtain ⟨a, e, hb⟩ := r
    split at h <;> simp only [Option.some.injEq, reduceCtorEq] at h
    subst h
    rename_i hu
    obtain ⟨vs, e1, q⟩ := R.obj _ _ _ hu hb
    exact ⟨a, vs, e, SqL.of e1, q⟩
theorem Rel.seq (R : Rel P w K mg Φ Z β U H) {d : D} {xs : List D} {v : V} (h : asQ U d = some xs) (r : RepV P w K Z β d v) : ∃ a vs, v = .ref a ∧ (SqL K H a vs ∨ SqT K H a vs) ∧ RepL P w K Z β xs vs := by
  by_cases ht : ∃ ys, d = .tup ys
  · obtain ⟨ys, rfl⟩ := ht
    simp only [asQ, Option.some.injEq] at h
    subst h
    simp only [RepV] at r
    obtain ⟨a, vs, e, s, q⟩ := r
    exact ⟨a, vs, e, .inr (SqT.le R.zle s), q⟩
  · have h' : asL U d = some xs := by
      cases d <;> first | exact h | exact absurd ⟨_, rfl⟩ ht
    obtain ⟨a, vs, e, s, q⟩ := R.list h' r
    exact ⟨a, vs, e, .inl s, q⟩
theorem Rel.tuple (R : Rel P w K mg Φ Z β U H) {xs : List D} {v : V} (r : RepV P w K Z β (.tup xs) v) : ∃ a vs, v = .ref a ∧ SqT K H a vs ∧ RepL P w K Z β xs vs := by
  simp only [RepV] at r
  obtain ⟨a, vs, e, s, q⟩ := r
  exact ⟨a, vs, e, SqT.le R.zle s, q⟩
/-- a new list -/
theorem Rel.mkL (R : Rel P w K mg Φ Z β U H) {m : Bool} {xs : List D} {vs : List V} {d : D} {U' : Store} (e : mkL m xs U = some (.ok d U')) (r : RepL P w K Z β xs vs) {p : Addr} (hp : H p = none) :
    ∃ Z' β', ZLe Z Z' ∧ BLe β β' ∧ Rel P w K mg Φ Z' β' U' (L2.upd H p (.lst vs)) ∧ RepV P w K Z' β' d (.ref p) := by
  cases m with
  | true =>
    simp only [VI.mkL, if_true, Option.some.injEq, VI.R.ok.injEq] at e
    obtain ⟨rfl, rfl⟩ := e
    obtain ⟨R', le⟩ := R.push hp (u := .lst vs) (o := .lst xs) ⟨vs, L2.upd_same, RepL.mono (ZLe.refl Z) ⟨[p], rfl⟩ r⟩
    refine ⟨Z, β ++ [p], ZLe.refl Z, le, R', ?_⟩
    simp only [RepV]
    exact ⟨p, rfl, by rw [← R.len]; simp⟩
  | false =>
    simp only [VI.mkL, Bool.false_eq_true, if_false, Option.some.injEq, VI.R.ok.injEq] at e
    obtain ⟨rfl, rfl⟩ := e
    obtain ⟨R', le⟩ := R.froze hp (.lst vs)
    refine ⟨_, β, le, BLe.refl β, R', ?_⟩
    simp only [RepV]
    exact ⟨p, vs, rfl, SqL.of L2.upd_same, RepL.mono le (BLe.refl β) r⟩
theorem Rel.mkT (R : Rel P w K mg Φ Z β U H) {xs : List D} {vs : List V} (r : RepL P w K Z β xs vs) {p : Addr} (hp : H p = none) :
    ∃ Z', ZLe Z Z' ∧ Rel P w K mg Φ Z' β U (L2.upd H p (.tup vs)) ∧ RepV P w K Z' β (.tup xs) (.ref p) := by
  obtain ⟨R', le⟩ := R.froze hp (.tup vs)
  refine ⟨_, le, R', ?_⟩
  simp only [RepV]
  exact ⟨p, vs, rfl, SqT.of L2.upd_same, RepL.mono le (BLe.refl β) r⟩
end
end VI

/-! VIb2: trees behind data (rs, snap), ==, in, the operators by values. -/
namespace VI
open PySem PySem.Spec PyProof.Rows L2
theorem rsv_flat {U : Store} {n₀ : Nat} {sub : D → Option D} {k : D} (h : flatK k = true) : rsv U n₀ sub k = some k := by
  cases k <;> simp [flatK] at h <;> simp [rsv]
theorem rsvL_flat {U : Store} {n₀ : Nat} {sub : D → Option D} : ∀ {ks : List D}, ks.all flatK = true → rsvL U n₀ sub ks = some ks
  | [], _ => by simp [rsvL]
  | x :: r, h => by
    simp only [List.all_cons, Bool.and_eq_true] at h
    simp [rsvL, rsv_flat h.1, rsvL_flat h.2]
theorem rsv_tupK {U : Store} {n₀ : Nat} {sub : D → Option D} {k : D} (h : tupK k = true) : rsv U n₀ sub k = some k := by
  obtain ⟨xs, rfl, h⟩ := tupK_shape h
  simp [rsv, rsvL_flat h]
theorem rsv_key {U : Store} {n₀ : Nat} {sub : D → Option D} {k : D} (h : keyFor 1 k = true) : rsv U n₀ sub k = some k := by
  simp only [keyFor, Bool.or_eq_true] at h
  rcases h with h | h
  · exact rsv_tupK h
  · obtain ⟨x, y, rfl, h1, h2⟩ := pairK_shape h
    simp [rsv, rsvL, rsv_tupK h1, rsv_tupK h2]
section
variable {P : Program} {w : World} {K : PySem.W.Frag} {mg : Str → Option Value} {Φ : List (Addr × HO)} {Z Z' : Hp} {β β' : List Addr} {U : Store} {H : Hp}
mutual
theorem rsv_rep {n₀ : Nat} {sub : D → Option D} (z : ZLe Z Z') (hs : ∀ n a d', β[n]? = some a → sub (.ref n) = some d' → RepV P w K Z' β' d' (.ref a)) : ∀ {d d' : D} {v : V}, rsv U n₀ sub d = some d' → RepV P w K Z β d v → RepV P w K Z' β' d' v
  | .non, d', v, h, r => by
    simp only [rsv, Option.some.injEq] at h
    subst h
    simpa only [RepV] using r
  | .bl _, d', v, h, r => by
    simp only [rsv, Option.some.injEq] at h
    subst h
    simpa only [RepV] using r
  | .int _, d', v, h, r => by
    simp only [rsv, Option.some.injEq] at h
    subst h
    simpa only [RepV] using r
  | .str _, d', v, h, r => by
    simp only [rsv, Option.some.injEq] at h
    subst h
    simpa only [RepV] using r
  | .tup xs, d', v, h, r => by
    simp only [rsv, Option.map_eq_some_iff] at h
    obtain ⟨ys, h, rfl⟩ := h
    simp only [RepV] at r ⊢
    obtain ⟨a, vs, e, s, q⟩ := r
    exact ⟨a, vs, e, SqT.le z s, rsvL_rep z hs h q⟩
  | .lst xs, d', v, h, r => by
    simp only [rsv, Option.map_eq_some_iff] at h
    obtain ⟨ys, h, rfl⟩ := h
    simp only [RepV] at r ⊢
    obtain ⟨a, vs, e, s, q⟩ := r
    exact ⟨a, vs, e, SqL.le z s, rsvL_rep z hs h q⟩
  | .dct t kvs, d', v, h, r => by
    simp only [rsv, Option.map_eq_some_iff] at h
    obtain ⟨ys, h, rfl⟩ := h
    simp only [RepV] at r ⊢
    obtain ⟨a, e, q⟩ := r
    refine ⟨a, e, ?_⟩
    rcases q with ⟨hn, l, h1, h2⟩ | ⟨hn, l, h1, hd, h2⟩
    · exact .inl ⟨hn, l, z _ _ h1, rsvP_repK z hs h h2⟩
    · exact .inr ⟨hn, l, z _ _ h1, hd, rsvP_repT z hs h h2⟩
  | .ref n, d', v, h, r => by
    simp only [RepV] at r
    obtain ⟨a, rfl, e⟩ := r
    exact hs n a d' e h
  | .exn _ _, d', v, h, r => by simp only [RepV] at r
theorem rsvL_rep {n₀ : Nat} {sub : D → Option D} (z : ZLe Z Z') (hs : ∀ n a d', β[n]? = some a → sub (.ref n) = some d' → RepV P w K Z' β' d' (.ref a)) : ∀ {ds ds' : List D} {vs : List V}, rsvL U n₀ sub ds = some ds' → RepL P w K Z β ds vs → RepL P w K Z' β' ds' vs
  | [], ds', vs, h, r => by
    simp only [rsvL, Option.some.injEq] at h
    subst h
    simpa only [RepL] using r
  | x :: t, ds', vs, h, r => by
    simp only [rsvL] at h
    split at h <;> simp only [Option.some.injEq, reduceCtorEq] at h
    rename_i y s e1 e2
    subst h
    simp only [RepL] at r
    obtain ⟨v, s', rfl, r1, r2⟩ := r
    exact RepL.cons (rsv_rep z hs e1 r1) (rsvL_rep z hs e2 r2)
theorem rsvP_repK {n₀ : Nat} {sub : D → Option D} (z : ZLe Z Z') (hs : ∀ n a d', β[n]? = some a → sub (.ref n) = some d' → RepV P w K Z' β' d' (.ref a)) : ∀ {ds ds' : List (D × D)} {vs : List (Key × V)}, rsvP U n₀ sub ds = some ds' → RepK P w K Z β ds vs → RepK P w K Z' β' ds' vs
  | [], ds', vs, h, r => by
    simp only [rsvP, Option.some.injEq] at h
    subst h
    simpa only [RepK] using r
  | (k, x) :: t, ds', vs, h, r => by
    simp only [rsvP] at h
    split at h <;> simp only [Option.some.injEq, reduceCtorEq] at h
    rename_i j y s e0 e1 e2
    subst h
    simp only [RepK] at r ⊢
    obtain ⟨kk, v, s', rfl, r0, r1, r2⟩ := r
    have ej : j = k := by
      cases k <;> simp [keyD] at r0 <;> simp [rsv] at e0 <;> exact e0.symm
    subst ej
    exact ⟨kk, v, s', rfl, r0, rsv_rep z hs e1 r1, rsvP_repK z hs e2 r2⟩
theorem rsvP_repT {n₀ : Nat} {sub : D → Option D} (z : ZLe Z Z') (hs : ∀ n a d', β[n]? = some a → sub (.ref n) = some d' → RepV P w K Z' β' d' (.ref a)) : ∀ {ds ds' : List (D × D)} {vs : List (NestedKey × Addr × Value)}, rsvP U n₀ sub ds = some ds' → RepT P w K Z β ds vs → RepT P w K Z' β' ds' vs
  | [], ds', vs, h, r => by
    simp only [rsvP, Option.some.injEq] at h
    subst h
    simpa only [RepT] using r
  | (k, x) :: t, ds', vs, h, r => by
    simp only [rsvP] at h
    split at h <;> simp only [Option.some.injEq, reduceCtorEq] at h
    rename_i j y s e0 e1 e2
    subst h
    simp only [RepT] at r ⊢
    obtain ⟨c, u, v, s', rfl, hk, rk, ru, r1, r2⟩ := r
    have ej : j = k := by
      rw [rsv_key hk] at e0
      exact (Option.some.inj e0).symm
    subst ej
    exact ⟨c, u, v, s', rfl, hk, rsv_rep (n₀ := n₀) (sub := sub) z hs (rsv_key hk) rk, ru, rsv_rep z hs e1 r1, rsvP_repT z hs e2 r2⟩
end
/-- what the objects from n₀ on are taken to -/
theorem subAt_rep {n₀ : Nat} (R : Rel P w K mg Φ Z β U H) (z : ZLe Z Z') (hz : ∀ n a, n₀ ≤ n → β[n]? = some a → Z' a = H a) (hb : ∀ n a, n < n₀ → β[n]? = some a → β'[n]? = some a) :
    ∀ (f n : Nat) (a : Addr) (d' : D), β[n]? = some a → subAt U n₀ f (.ref n) = some d' → RepV P w K Z' β' d' (.ref a)
  | 0, n, a, d', _, h => by simp [subAt] at h
  | f + 1, n, a, d', e, h => by
    simp only [subAt] at h
    by_cases hn : n < n₀
    · rw [if_pos hn] at h
      cases h
      simp only [RepV]
      exact ⟨a, rfl, hb n a hn e⟩
    · rw [if_neg hn] at h
      have ih := subAt_rep R z hz hb f
      split at h
      · rename_i xs hu
        simp only [Option.map_eq_some_iff] at h
        obtain ⟨ys, h, rfl⟩ := h
        obtain ⟨vs, e1, q⟩ := R.obj n _ a hu e
        simp only [RepV]
        exact ⟨a, vs, rfl, SqL.of ((hz n a (by omega) e).trans e1), rsvL_rep z ih h q⟩
      · rename_i t kvs hu
        simp only [Option.map_eq_some_iff] at h
        obtain ⟨ys, h, rfl⟩ := h
        simp only [RepV]
        refine ⟨a, rfl, ?_⟩
        rcases R.obj n _ a hu e with ⟨hn, l, e1, q⟩ | ⟨hn, l, e1, hd, q⟩
        · exact .inl ⟨hn, l, (hz n a (by omega) e).trans e1, rsvP_repK z ih h q⟩
        · exact .inr ⟨hn, l, (hz n a (by omega) e).trans e1, hd, rsvP_repT z ih h q⟩
      · cases h
/-- the tree behind a datum, over the whole heap -/
theorem snap_rep (R : Rel P w K mg Φ Z β U H) {d d' : D} {v : V} (h : snap U d = some d') (r : RepV P w K Z β d v) : RepV P w K H [] d' v :=
  rsv_rep R.zle (fun n a d' e hd => subAt_rep (n₀ := 0) R R.zle (fun _ _ _ _ => rfl) (fun _ _ h => absurd h (by omega)) 8 n a d' e hd) h r
theorem snapL_rep (R : Rel P w K mg Φ Z β U H) : ∀ {ds ds' : List D} {vs : List V}, snapL U ds = some ds' → RepL P w K Z β ds vs → RepL P w K H [] ds' vs
  | [], ds', vs, h, r => by
    simp only [snapL, Option.some.injEq] at h
    subst h
    simpa only [RepL] using r
  | x :: t, ds', vs, h, r => by
    simp only [snapL] at h
    split at h <;> simp only [Option.some.injEq, reduceCtorEq] at h
    rename_i y s e1 e2
    subst h
    simp only [RepL] at r
    obtain ⟨v, s', rfl, r1, r2⟩ := r
    exact RepL.cons (snap_rep R e1 r1) (snapL_rep R e2 r2)
end

/-! ### == -/
mutual
def toP : D → PyData
  | .non => .none
  | .bl b => .bool b
  | .int i => .int i
  | .str x => .str ⟨x.toArray⟩
  | .tup xs => .tuple (toPL xs)
  | .lst xs => .list (toPL xs)
  | .dct _ _ => .none
  | .ref _ => .none
  | .exn _ _ => .none
def toPL : List D → List PyData
  | [] => []
  | x :: r => toP x :: toPL r
end
theorem toPL_map : ∀ xs : List D, toPL xs = xs.map toP
  | [] => by simp [toPL]
  | x :: r => by simp [toPL, toPL_map r]
theorem tx_beq (x y : Tx) : ((⟨x.toArray⟩ : Str) == ⟨y.toArray⟩) = decide (x = y) := by
  rw [Bool.eq_iff_iff]
  simp
mutual
theorem eqv_toP : ∀ (a b : D) (n m : Nat), plain a n = true → plain b m = true → PyData.eqv (toP a) (toP b) = pyeq a b
  | .non, b, n, m, h, h' => by cases b <;> simp_all [toP, PyData.eqv, pyeq, plain]
  | .bl _, b, n, m, h, h' => by cases b <;> simp_all [toP, PyData.eqv, pyeq, plain] <;> rfl
  | .int _, b, n, m, h, h' => by cases b <;> simp_all [toP, PyData.eqv, pyeq, plain] <;> rfl
  | .str x, b, n, m, h, h' => by
    cases b <;> simp_all [toP, PyData.eqv, pyeq, plain]
    exact tx_beq _ _
  | .tup xs, b, 0, m, h, h' => by simp [plain] at h
  | .lst xs, b, 0, m, h, h' => by simp [plain] at h
  | .tup xs, b, n + 1, m, h, h' => by
    cases b with
    | tup ys =>
      cases m with
      | zero => simp [plain] at h'
      | succ m =>
        simp only [plain] at h h'
        simp only [toP, PyData.eqv, pyeq]
        exact eqv_toPL xs ys n m h h'
    | _ => simp_all [toP, PyData.eqv, pyeq, plain]
  | .lst xs, b, n + 1, m, h, h' => by
    cases b with
    | lst ys =>
      cases m with
      | zero => simp [plain] at h'
      | succ m =>
        simp only [plain] at h h'
        simp only [toP, PyData.eqv, pyeq]
        exact eqv_toPL xs ys n m h h'
    | _ => simp_all [toP, PyData.eqv, pyeq, plain]
  | .dct _ _, b, n, m, h, h' => by simp [plain] at h
  | .ref _, b, n, m, h, h' => by simp [plain] at h
  | .exn _ _, b, n, m, h, h' => by simp [plain] at h
theorem eqv_toPL : ∀ (a b : List D) (n m : Nat), plainL a n = true → plainL b m = true → PyData.eqvAll (toPL a) (toPL b) = pyeqL a b
  | [], [], n, m, h, h' => by simp [toPL, PyData.eqvAll, pyeqL]
  | [], y :: s, n, m, h, h' => by simp [toPL, PyData.eqvAll, pyeqL]
  | x :: r, [], n, m, h, h' => by simp [toPL, PyData.eqvAll, pyeqL]
  | x :: r, y :: s, n, m, h, h' => by
    simp only [plainL, Bool.and_eq_true] at h h'
    simp only [toPL, PyData.eqvAll, pyeqL, eqv_toP x y n m h.1 h'.1, eqv_toPL r s n m h.2 h'.2]
end
mutual
theorem lay_toP : ∀ (a : D) (n : Nat), plain a n = true → PyData.canLay0 (toP a) = true ∧ (toP a).depth ≤ n
  | .non, n, h => by simp [toP, PyData.canLay0, PyData.depth]
  | .bl _, n, h => by simp [toP, PyData.canLay0, PyData.depth]
  | .int _, n, h => by simp [toP, PyData.canLay0, PyData.depth]
  | .str x, n, h => by
    refine ⟨?_, by simp [toP, PyData.depth]⟩
    simp only [toP, PyData.canLay0]
    simp only [plain] at h
    unfold PyData.strOk
    rw [← Array.all_toList]
    exact h
  | .tup xs, 0, h => by simp [plain] at h
  | .lst xs, 0, h => by simp [plain] at h
  | .tup xs, n + 1, h => by
    simp only [plain] at h
    have := lay_toPL xs n h
    simp only [toP, PyData.canLay0, PyData.depth]
    exact ⟨this.1, by omega⟩
  | .lst xs, n + 1, h => by
    simp only [plain] at h
    have := lay_toPL xs n h
    simp only [toP, PyData.canLay0, PyData.depth]
    exact ⟨this.1, by omega⟩
  | .dct _ _, n, h => by simp [plain] at h
  | .ref _, n, h => by simp [plain] at h
  | .exn _ _, n, h => by simp [plain] at h
theorem lay_toPL : ∀ (a : List D) (n : Nat), plainL a n = true → PyData.canLayAll0 (toPL a) = true ∧ PyData.depthAll (toPL a) ≤ n
  | [], n, h => by simp [toPL, PyData.canLayAll0, PyData.depthAll]
  | x :: r, n, h => by
    simp only [plainL, Bool.and_eq_true] at h
    have h1 := lay_toP x n h.1
    have h2 := lay_toPL r n h.2
    simp only [toPL, PyData.canLayAll0, PyData.depthAll, Bool.and_eq_true]
    exact ⟨⟨h1.1, h2.1⟩, by omega⟩
end
theorem shaped_toP {a : D} (h : plain a 40 = true) : SeqAt.shaped (toP a) = true := by
  have := lay_toP a 40 h
  show (PyData.canLay0 (toP a) && decide ((toP a).depth ≤ 64)) = true
  rw [Bool.and_eq_true]
  exact ⟨this.1, decide_eq_true (by omega)⟩
theorem shaped_toPL {a : List D} (h : plainL a 40 = true) : SeqAt.shaped (.list (toPL a)) = true := by
  have := lay_toPL a 40 h
  show (PyData.canLay0 (.list (toPL a)) && decide ((PyData.list (toPL a)).depth ≤ 64)) = true
  rw [Bool.and_eq_true]
  simp only [PyData.canLay0, PyData.depth]
  exact ⟨this.1, decide_eq_true (by omega)⟩
theorem shaped_toPT {a : List D} (h : plainL a 40 = true) : SeqAt.shaped (.tuple (toPL a)) = true := by
  have := lay_toPL a 40 h
  show (PyData.canLay0 (.tuple (toPL a)) && decide ((PyData.tuple (toPL a)).depth ≤ 64)) = true
  rw [Bool.and_eq_true]
  simp only [PyData.canLay0, PyData.depth]
  exact ⟨this.1, decide_eq_true (by omega)⟩
mutual
theorem dp_of {P : Program} {w : World} {K : PySem.W.Frag} {H : Hp} : ∀ {a : D} {v : V} {n : Nat}, plain a n = true → RepV P w K H [] a v → Dp K H v (toP a)
  | .non, v, n, h, r => by
    simp only [RepV] at r
    subst r
    exact .non
  | .bl b, v, n, h, r => by
    simp only [RepV] at r
    subst r
    exact .bl b
  | .int b, v, n, h, r => by
    simp only [RepV] at r
    subst r
    exact .int b
  | .str b, v, n, h, r => by
    simp only [RepV] at r
    subst r
    exact .str _
  | .tup xs, v, 0, h, r => by simp [plain] at h
  | .lst xs, v, 0, h, r => by simp [plain] at h
  | .tup xs, v, n + 1, h, r => by
    simp only [plain] at h
    simp only [RepV] at r
    obtain ⟨a, vs, rfl, s, q⟩ := r
    exact .tup s (dpL_of h q)
  | .lst xs, v, n + 1, h, r => by
    simp only [plain] at h
    simp only [RepV] at r
    obtain ⟨a, vs, rfl, s, q⟩ := r
    exact .lst s (dpL_of h q)
  | .dct _ _, v, n, h, r => by simp [plain] at h
  | .ref _, v, n, h, r => by simp [plain] at h
  | .exn _ _, v, n, h, r => by simp [plain] at h
theorem dpL_of {P : Program} {w : World} {K : PySem.W.Frag} {H : Hp} : ∀ {a : List D} {v : List V} {n : Nat}, plainL a n = true → RepL P w K H [] a v → DpAll K H v (toPL a)
  | [], v, n, h, r => by
    simp only [RepL] at r
    subst r
    exact .nil
  | x :: t, v, n, h, r => by
    simp only [plainL, Bool.and_eq_true] at h
    simp only [RepL] at r
    obtain ⟨v1, s, rfl, r1, r2⟩ := r
    exact .cons (dp_of h.1 r1) (dpL_of h.2 r2)
end
theorem flat_eqV {P : Program} {w : World} {K : PySem.W.Frag} {Z : Hp} {β : List Addr} {a b : D} {x y : V} (fa : flat a = true) (fb : flat b = true) (ra : RepV P w K Z β a x) (rb : RepV P w K Z β b y) : flatV x = true ∧ eqV x y = pyeq a b := by
  cases a <;> simp [flat] at fa <;> cases b <;> simp [flat] at fb <;> simp only [RepV] at ra rb <;> subst ra rb <;> refine ⟨rfl, ?_⟩ <;> simp [eqV, pyeq] <;> first | rfl | exact tx_beq _ _
end VI

/-! VIb3: the operators by values. -/
namespace VI
open PySem PySem.Spec PyProof.Rows L2
/-- what is wanted of the datum d and the store U' -/
def Done (P : Program) (w : World) (K : PySem.W.Frag) (mg : Str → Option Value) (Φ : List (Addr × HO)) (Z : Hp) (β : List Addr) (d : D) (U' : Store) (Q : VK) : Prop :=
  ∀ (Z' : Hp) (β' : List Addr) (H' : Hp) (v : V), ZLe Z Z' → BLe β β' → Rel P w K mg Φ Z' β' U' H' → RepV P w K Z' β' d v → Q v H'
section
variable {P : Program} {w : World} {K : PySem.W.Frag} {mg : Str → Option Value} {Φ : List (Addr × HO)} {Z Z' : Hp} {β β' : List Addr} {U U' : Store} {H : Hp} {d : D} {Q : VK}
theorem Done.mono (h : Done P w K mg Φ Z β d U' Q) (z : ZLe Z Z') (b : BLe β β') : Done P w K mg Φ Z' β' d U' Q := fun Z2 β2 H2 v z2 b2 R r => h Z2 β2 H2 v (z.trans z2) (b.trans b2) R r
theorem Done.same {v : V} (h : Done P w K mg Φ Z β d U Q) (R : Rel P w K mg Φ Z β U H) (r : RepV P w K Z β d v) : Q v H := h Z β H v (ZLe.refl Z) (BLe.refl β) R r
theorem Done.scal {v : V} (h : Done P w K mg Φ Z β d U Q) (R : Rel P w K mg Φ Z β U H) (r : RepV P w K Z β d v) : Q v H := h.same R r
theorem Done.int {i : Int} (h : Done P w K mg Φ Z β (.int i) U Q) (R : Rel P w K mg Φ Z β U H) : Q (.int i) H := h.same R (by simp only [RepV])
theorem Done.bl {i : Bool} (h : Done P w K mg Φ Z β (.bl i) U Q) (R : Rel P w K mg Φ Z β U H) : Q (.bl i) H := h.same R (by simp only [RepV])
theorem Done.non (h : Done P w K mg Φ Z β .non U Q) (R : Rel P w K mg Φ Z β U H) : Q .non H := h.same R (by simp only [RepV])
theorem Done.str {x : Tx} (h : Done P w K mg Φ Z β (.str x) U Q) (R : Rel P w K mg Φ Z β U H) : Q (.str ⟨x.toArray⟩) H := h.same R (by simp only [RepV])
theorem Done.lst {m : Bool} {xs : List D} {vs : List V} (h : Done P w K mg Φ Z β d U' Q) (R : Rel P w K mg Φ Z β U H) (e : mkL m xs U = some (.ok d U')) (r : RepL P w K Z β xs vs) {p : Addr} (hp : H p = none) : Q (.ref p) (L2.upd H p (.lst vs)) := by
  obtain ⟨Z', β', z, b, R', r'⟩ := R.mkL e r hp
  exact h Z' β' _ _ z b R' r'
theorem Done.tup {xs : List D} {vs : List V} (h : Done P w K mg Φ Z β (.tup xs) U Q) (R : Rel P w K mg Φ Z β U H) (r : RepL P w K Z β xs vs) {p : Addr} (hp : H p = none) : Q (.ref p) (L2.upd H p (.tup vs)) := by
  obtain ⟨Z', z, R', r'⟩ := R.mkT r hp
  exact h Z' β _ _ z (BLe.refl β) R' r'
end
/-- a two-place operation of VIa's, by values -/
def r2 (P : Program) (w : World) (K : PySem.W.Frag) (mg : Str → Option Value) (f : D → D → M D) : R2 := fun x y H Q => ∃ Φ Z β U a b d U', Rel P w K mg Φ Z β U H ∧ RepV P w K Z β a x ∧ RepV P w K Z β b y ∧ f a b U = some (.ok d U') ∧ Done P w K mg Φ Z β d U' Q
theorem OpR.imp {X : Cx} {f : Value → Value → Sem Value} {r r' : R2} (h : OpR X f r) (i : ∀ x y H Q, r' x y H Q → r x y H Q) : OpR X f r' := fun pins s σ H x y v u Q I rx ry q => h pins s σ H x y v u Q I rx ry (i x y H Q q)
theorem CallR.imp {X : Cx} {f : Value} {r r' : List V → Hp → VK → Prop} (h : CallR X f r) (i : ∀ xs H Q, r' xs H Q → r xs H Q) : CallR X f r' := fun pins s σ H xs us Q I rx q => h pins s σ H xs us Q I rx (i xs H Q q)
theorem MtR.imp {X : Cx} {id : String} {r r' : V → List V → Hp → VK → Prop} (h : MtR X id r) (i : ∀ x xs H Q, r' x xs H Q → r x xs H Q) : MtR X id r' := fun pins s σ H x xs v us Q I rx rxs q => h pins s σ H x xs v us Q I rx rxs (i x xs H Q q)
theorem bits_eq (i : Int) : Builtin.Int.intBits i = bits i := by
  unfold Builtin.Int.intBits bits
  by_cases h : i = 0
  · subst h
    rfl
  · rw [if_neg (by simpa using h), if_neg h]
theorem mulOk_ok {i j : Int} (h : mulOk i j = true) : IntMulOk i j := by
  unfold mulOk at h
  simp only [Bool.or_eq_true, decide_eq_true_eq] at h
  rw [← bits_eq, ← bits_eq] at h
  have e : bitsLine = 134217728 := by decide
  rcases h with (h | h) | h
  · exact .of_left h
  · exact .of_right h
  · unfold IntMulOk
    intro z
    rw [Bool.and_eq_true] at z
    have z2 := z.2
    unfold Builtin.Int.intTooBig at z2
    have z3 := of_decide_eq_true z2
    rw [e] at z3
    omega
section
variable {X : Cx}
/-- xs + ys, lists of any kind -/
def rCatL (K : PySem.W.Frag) : R2 := fun x y H Q => ∃ l b xs zs, x = .ref l ∧ y = .ref b ∧ SqL K H l xs ∧ SqL K H b zs ∧ xs.length + zs.length ≤ sizeLine ∧ ∀ p, H p = none → Q (.ref p) (L2.upd H p (.lst (xs ++ zs)))
theorem op_catL : OpR X (binaryOp .Add) (rCatL X.K) := by
  intro pins s σ H x y v u Q I rx ry h
  obtain ⟨l, b, xs, zs, rfl, rfl, hH, hB, hz, q⟩ := h
  cases rx
  cases ry
  obtain ⟨its, r, ⟨⟨cls, dd, data, sl⟩, n, ho, hc, hdd, hd⟩, hl⟩ := I.list hH
  obtain ⟨its2, r2, ⟨⟨cls2, dd2, data2, sl2⟩, n2, ho2, hc2, hdd2, hd2⟩, hl2⟩ := I.list hB
  simp only at hc hd hc2 hd2
  subst hc hd hc2 hd2
  have e1 := r.length
  have e2 := r2.length
  refine concat_meets ⟨_, ho, rfl⟩ ⟨_, ho2, rfl⟩ noFill_list_add seq_list_add PySem.F.slot_list_add PySem.F.entry_list_add (PySem.F.args_list_add_2 _ _) (list_addW l b its.toArray its2.toArray n n2 dd dd2 sl sl2 (by rw [List.size_toArray, List.size_toArray]; omega)) ⟨ho, ho2, ?_⟩
  have ea : its.toArray ++ its2.toArray = (its ++ its2).toArray := by simp
  rw [ea]
  exact ⟨.ref _, _, I.lnew (t' := s.toks) (r.append r2) (by rw [List.length_append]; omega), rfl, q _ I.fresh⟩
theorem repl_foldl (x : Tx) (n : Nat) : ((List.replicate n x.toArray).foldl (· ++ ·) #[]) = (List.replicate n x).flatten.toArray := by
  have h : ∀ (n : Nat) (acc : Array Nat), (List.replicate n x.toArray).foldl (· ++ ·) acc = acc ++ (List.replicate n x).flatten.toArray := by
    intro n
    induction n with
    | zero => intro acc; simp
    | succ n ih =>
      intro acc
      rw [List.replicate_succ, List.foldl_cons, ih, List.replicate_succ, List.flatten_cons]
      simp
  rw [h]
  simp
theorem sum_repl (n k : Nat) : (List.replicate n k).sum = n * k := by
  induction n with
  | zero => simp
  | succ n ih => rw [List.replicate_succ, List.sum_cons, ih, Nat.succ_mul, Nat.add_comm]
/-- text * int -/
theorem op_mulS : OpR X (binaryOp .Mult) (fun x y H Q => ∃ (z : Tx) (k : Int), x = .str ⟨z.toArray⟩ ∧ y = .int k ∧ -1000000 ≤ k ∧ k ≤ 1000000 ∧ z.length * k.toNat ≤ sizeLine ∧ Q (.str ⟨(List.replicate k.toNat z).flatten.toArray⟩) H) := by
  intro pins s σ H x y v u Q I rx ry h
  obtain ⟨z, k, rfl, rfl, h1, h2, hz, q⟩ := h
  obtain ⟨t, rfl⟩ := rx
  obtain ⟨t', rfl⟩ := ry
  have e : (⟨z.toArray⟩ : Str).length = z.length := by simp [Str.length]
  refine PySem.P.mul_str (by simp; omega) (fun h1 h2 => ?_) (fun h1 h2 => ?_) ?_
  · rw [e]
    have a : (z.length : Int) ≤ 16777216 := by
      have b : z.length * 1 ≤ z.length * k.toNat := Nat.mul_le_mul_left _ (by omega)
      rw [sizeLine_eq] at hz
      omega
    have b : (16777216 : Int) ≤ (2 ^ 63 - 1) / k := by
      rw [Int.le_ediv_iff_mul_le (by omega)]
      omega
    omega
  · rw [e]
    unfold Builtin.Str.tooLong
    simp only [decide_eq_false_iff_not]
    omega
  · by_cases hk : k < 1
    · rw [if_pos hk]
      refine ⟨by decide, ?_⟩
      have ek : k.toNat = 0 := by omega
      rw [ek] at q
      exact ⟨.str Str.empty, H, I.tok _, ⟨_, rfl⟩, by simpa [Str.empty] using q⟩
    · rw [if_neg hk]
      by_cases hq : (k == 1 || (⟨z.toArray⟩ : Str).length == 0) = true
      · rw [if_pos hq]
        have eq : (List.replicate k.toNat z).flatten = z := by
          rw [e] at hq
          simp only [Bool.or_eq_true, beq_iff_eq] at hq
          rcases hq with hq | hq
          · subst hq
            simp
          · have : z = [] := List.length_eq_zero_iff.mp hq
            subst this
            simp
        rw [eq] at q
        exact ⟨.str ⟨z.toArray⟩, H, I, ⟨_, rfl⟩, q⟩
      · rw [if_neg hq]
        refine ⟨?_, ?_⟩
        · rw [repl_foldl]
          unfold Str.length
          simp only [List.size_toArray, List.length_flatten, List.map_replicate]
          rw [sum_repl, Nat.mul_comm]
          exact hz
        · rw [repl_foldl]
          exact ⟨.str _, H, I.tok _, ⟨_, rfl⟩, q⟩

theorem str_app (x y : Tx) : ((⟨x.toArray⟩ : Str) ++ (⟨y.toArray⟩ : Str)) = (⟨(x ++ y).toArray⟩ : Str) := by
  show (⟨x.toArray ++ y.toArray⟩ : Str) = _
  simp
theorem str_len (x : Tx) : (⟨x.toArray⟩ : Str).length = x.length := by simp [Str.length]
theorem ok_inj {α : Type} {a b : α} {U V : Store} (h : (some (VI.R.ok a U) : Option (VI.R α)) = some (VI.R.ok b V)) : a = b ∧ U = V := by
  simpa using h
theorem asL_not {U : Store} {d : D} {xs : List D} (h : asL U d = some xs) : (∃ ys, d = .lst ys) ∨ ∃ n, d = .ref n := by
  cases d <;> simp [asL] at h
  · exact .inl ⟨_, rfl⟩
  · exact .inr ⟨_, rfl⟩
theorem add_lists {m : Bool} {P : Program} {w : World} {K : PySem.W.Frag} {mg : Str → Option Value} {Φ : List (Addr × HO)} {Z : Hp} {β : List Addr} {U U' : Store} {H : Hp} {a b d : D} {x y : V} {Q : VK} (R : Rel P w K mg Φ Z β U H) (ra : RepV P w K Z β a x) (rb : RepV P w K Z β b y)
    (e : (match asL U a, asL U b with
    | some xs, some ys => if xs.length + ys.length ≤ SZ then mkL m (xs ++ ys) U else none
    | _, _ => none) = some (.ok d U')) (dn : Done P w K mg Φ Z β d U' Q) : rCatL K x y H Q := by
  split at e
  · rename_i xs ys h1 h2
    split at e
    · rename_i hz
      obtain ⟨l, vs, rfl, s1, q1⟩ := R.list h1 ra
      obtain ⟨b', ws, rfl, s2, q2⟩ := R.list h2 rb
      refine ⟨l, b', vs, ws, rfl, rfl, s1, s2, ?_, fun p hp => ?_⟩
      · rw [← q1.length, ← q2.length, ← SZ_eq]
        exact hz
      · exact dn.lst R e (q1.append q2) hp
    · cases e
  · cases e
theorem or_add (m : Bool) : OpR X (binaryOp .Add) (r2 X.prog X.w X.K X.mg (binop .add m)) := by
  refine OpR.imp (op_add.or (op_add_str.or (op_catA.or op_catL))) ?_
  rintro x y H Q ⟨Φ, Z, β, U, a, b, d, U', R, ra, rb, e, dn⟩
  change addOp m a b U = some (.ok d U') at e
  unfold addOp at e
  split at e
  · obtain ⟨rfl, rfl⟩ := ok_inj e
    simp only [RepV] at ra rb
    exact .inl ⟨_, _, ra, rb, dn.int R⟩
  · split at e
    · obtain ⟨rfl, rfl⟩ := ok_inj e
      simp only [RepV] at ra rb
      refine .inr (.inl ⟨_, _, ra, rb, by rw [str_len, str_len, ← SZ_eq]; assumption, ?_⟩)
      rw [str_app]
      exact dn.str R
    · cases e
  · split at e
    · obtain ⟨rfl, rfl⟩ := ok_inj e
      rename_i hz
      obtain ⟨t1, vs, rfl, s1, q1⟩ := R.tuple ra
      obtain ⟨t2, ws, rfl, s2, q2⟩ := R.tuple rb
      refine .inr (.inr (.inl ⟨t1, t2, vs, ws, rfl, rfl, s1, s2, ?_, fun h0 => ?_, fun h1 h0 => ?_, fun h1 h0 p hp => ?_⟩))
      · rw [← q1.length, ← q2.length, ← SZ_eq]
        exact hz
      · have := q1.length
        rw [h0] at this
        have e0 := List.length_eq_zero_iff.mp (this.trans rfl)
        subst e0
        exact dn.same R rb
      · have := q2.length
        rw [h0] at this
        have e0 := List.length_eq_zero_iff.mp (this.trans rfl)
        subst e0
        rw [List.append_nil] at dn
        exact dn.same R ra
      · exact dn.tup R (q1.append q2) hp
    · cases e
  · exact .inr (.inr (.inr (add_lists R ra rb e dn)))
theorem or_sub (m : Bool) : OpR X (binaryOp .Sub) (r2 X.prog X.w X.K X.mg (binop .sub m)) := by
  refine OpR.imp op_sub ?_
  rintro x y H Q ⟨Φ, Z, β, U, a, b, d, U', R, ra, rb, e, dn⟩
  simp only [binop] at e
  split at e
  · obtain ⟨rfl, rfl⟩ := ok_inj e
    simp only [RepV] at ra rb
    exact ⟨_, _, ra, rb, dn.int R⟩
  · cases e
theorem op_mulB : OpR X (binaryOp .Mult) (rI (fun i j => mulOk i j = true) fun i j => .int (i * j)) := opI fun _ _ _ _ _ _ _ hc q => mul_int q (mulOk_ok hc)
/-- xs * k -/
def rRepL (K : PySem.W.Frag) : R2 := fun x y H Q => ∃ l k xs, x = .ref l ∧ y = .int k ∧ H l = some (.lst xs) ∧ -(2 ^ 63) ≤ k ∧ k < 2 ^ 63 ∧ xs.length * k.toNat ≤ sizeLine ∧
  ∀ p, H p = none → Q (.ref p) (L2.upd H p (.lst (List.replicate k.toNat xs).flatten))
theorem RepL.repl {P : Program} {w : World} {K : PySem.W.Frag} {Z : Hp} {β : List Addr} {xs : List D} {vs : List V} (h : RepL P w K Z β xs vs) : ∀ n, RepL P w K Z β (List.replicate n xs).flatten (List.replicate n vs).flatten
  | 0 => by simpa using RepL.nil
  | n + 1 => by
    rw [List.replicate_succ, List.flatten_cons, List.replicate_succ, List.flatten_cons]
    exact h.append (RepL.repl h n)
theorem or_mul (m : Bool) : OpR X (binaryOp .Mult) (r2 X.prog X.w X.K X.mg (fun a b U => match a, b with | .int i, .int j => mulOp m (.int i) (.int j) U | .str x, .int k => mulOp m (.str x) (.int k) U | _, _ => none)) := by
  refine OpR.imp (op_mulB.or op_mulS) ?_
  rintro x y H Q ⟨Φ, Z, β, U, a, b, d, U', R, ra, rb, e, dn⟩
  simp only at e
  split at e
  · simp only [mulOp] at e
    split at e
    · obtain ⟨rfl, rfl⟩ := ok_inj e
      simp only [RepV] at ra rb
      exact .inl ⟨_, _, ra, rb, by assumption, dn.int R⟩
    · cases e
  · simp only [mulOp] at e
    split at e
    · obtain ⟨rfl, rfl⟩ := ok_inj e
      rename_i hz
      simp only [RepV] at ra rb
      exact .inr ⟨_, _, ra, rb, hz.1, hz.2.1, by rw [← SZ_eq]; exact hz.2.2, dn.str R⟩
    · cases e
  · cases e
theorem or_fdiv (m : Bool) : OpR X (binaryOp .FloorDiv) (r2 X.prog X.w X.K X.mg (binop .fdiv m)) := by
  refine OpR.imp op_fdivW ?_
  rintro x y H Q ⟨Φ, Z, β, U, a, b, d, U', R, ra, rb, e, dn⟩
  simp only [binop] at e
  split at e
  · split at e
    · obtain ⟨rfl, rfl⟩ := ok_inj e
      rename_i hd
      simp only [divOk, Bool.and_eq_true, decide_eq_true_eq] at hd
      simp only [RepV] at ra rb
      exact ⟨_, _, ra, rb, hd, dn.int R⟩
    · cases e
  · cases e
theorem or_mod (m : Bool) : OpR X (binaryOp .Mod) (r2 X.prog X.w X.K X.mg (binop .mod m)) := by
  refine OpR.imp op_mod ?_
  rintro x y H Q ⟨Φ, Z, β, U, a, b, d, U', R, ra, rb, e, dn⟩
  simp only [binop] at e
  split at e
  · split at e
    · obtain ⟨rfl, rfl⟩ := ok_inj e
      simp only [RepV] at ra rb
      exact ⟨_, _, ra, rb, by assumption, dn.int R⟩
    · cases e
  · cases e
theorem or_pow (m : Bool) : OpR X (binaryOp .Pow) (r2 X.prog X.w X.K X.mg (binop .pow m)) := by
  refine OpR.imp op_pow ?_
  rintro x y H Q ⟨Φ, Z, β, U, a, b, d, U', R, ra, rb, e, dn⟩
  simp only [binop] at e
  split at e
  · split at e
    · obtain ⟨rfl, rfl⟩ := ok_inj e
      rename_i hz
      simp only [RepV] at ra rb
      refine ⟨_, _, ra, rb, ⟨hz.1, by omega, ?_⟩, dn.int R⟩
      have : (2 : Nat) ^ 64 = 18446744073709551616 := by decide
      omega
    · cases e
  · cases e
/-! ### comparisons -/
/-- a comparison of VIa's -/
def rc (P : Program) (w : World) (K : PySem.W.Frag) (mg : Str → Option Value) (op : COp) : R2 := fun x y H Q => ∃ Φ Z β U a b k, Rel P w K mg Φ Z β U H ∧ RepV P w K Z β a x ∧ RepV P w K Z β b y ∧ cmpop op U a b = some k ∧ Q (.bl k) H
theorem tx_eq (x y : Tx) : decide ((⟨x.toArray⟩ : Str) = ⟨y.toArray⟩) = decide (x = y) := by
  rw [Bool.eq_iff_iff]
  simp
theorem scal_rep {P : Program} {w : World} {K : PySem.W.Frag} {Z : Hp} {β : List Addr} {a b : D} {x y : V} (h : scalS a b = true) (ra : RepV P w K Z β a x) (rb : RepV P w K Z β b y) : scal x y = true ∧ decide (x = y) = pyeq a b := by
  cases a <;> cases b <;> simp [scalS] at h <;> simp only [RepV] at ra rb <;> subst ra rb <;> refine ⟨rfl, ?_⟩ <;> simp [pyeq]
theorem eqv_rep {P : Program} {w : World} {K : PySem.W.Frag} {mg : Str → Option Value} {Φ : List (Addr × HO)} {Z : Hp} {β : List Addr} {U : Store} {H : Hp} {a b : D} {x y : V} {k : Bool} (R : Rel P w K mg Φ Z β U H) (ra : RepV P w K Z β a x) (rb : RepV P w K Z β b y) (e : eqv U a b = some k) :
    (scal x y = true ∧ decide (x = y) = k) ∨ ∃ d e, Dp K H x d ∧ Dp K H y e ∧ SeqAt.shaped d = true ∧ SeqAt.shaped e = true ∧ PyData.eqv d e = k := by
  unfold eqv at e
  split at e
  · rename_i hs
    cases e
    exact .inl (scal_rep hs ra rb)
  · split at e
    · rename_i x' y' h1 h2
      split at e
      · rename_i hp
        simp only [Bool.and_eq_true] at hp
        cases e
        exact .inr ⟨_, _, dp_of hp.1 (snap_rep R h1 ra), dp_of hp.2 (snap_rep R h2 rb), shaped_toP hp.1, shaped_toP hp.2, eqv_toP _ _ 40 40 hp.1 hp.2⟩
      · cases e
    · cases e
theorem or_eq (hu : X.A.units + 64 < cLine) : OpR X (compareOp .Eq) (rc X.prog X.w X.K X.mg .eq) := by
  refine OpR.imp (op_eq.or (op_eqD hu)) ?_
  rintro x y H Q ⟨Φ, Z, β, U, a, b, k, R, ra, rb, e, q⟩
  rcases eqv_rep R ra rb e with ⟨h1, h2⟩ | ⟨d, e, h1, h2, h3, h4, h5⟩
  · exact .inl ⟨h1, by rw [h2]; exact q⟩
  · exact .inr ⟨d, e, h1, h2, h3, h4, by rw [h5]; exact q⟩
theorem or_ne (hu : X.A.units + 64 < cLine) : OpR X (compareOp .NotEq) (rc X.prog X.w X.K X.mg .ne) := by
  refine OpR.imp (op_ne.or (op_neD hu)) ?_
  rintro x y H Q ⟨Φ, Z, β, U, a, b, k, R, ra, rb, e, q⟩
  simp only [cmpop, Option.map_eq_some_iff] at e
  obtain ⟨k, e, rfl⟩ := e
  rcases eqv_rep R ra rb e with ⟨h1, h2⟩ | ⟨d, e, h1, h2, h3, h4, h5⟩
  · exact .inl ⟨h1, by rw [h2]; exact q⟩
  · exact .inr ⟨d, e, h1, h2, h3, h4, by rw [h5]; exact q⟩
end
end VI

/-! VIb4: dicts; in, is, order; truth, items, slices, by values. -/
namespace VI
open PySem PySem.Spec PyProof.Rows L2
/-! ### dicts -/
theorem kV_of {k : D} {kk : Key} {Z : Hp} {β : List Addr} {P : Program} {w : World} {K : PySem.W.Frag} {v : V} (h : keyD k = some kk) (r : RepV P w K Z β k v) : v = kV kk := by
  cases k <;> simp [keyD] at h <;> subst h <;> simp only [RepV] at r <;> exact r
theorem look_K {P : Program} {w : World} {K : PySem.W.Frag} {Z : Hp} {β : List Addr} {k : D} {kk : Key} (h : keyD k = some kk) : ∀ {kvs : List (D × D)} {l : List (Key × V)}, RepK P w K Z β kvs l →
    (lookD kvs k = none ∧ valV l kk = none) ∨ ∃ x v, lookD kvs k = some x ∧ valV l kk = some v ∧ RepV P w K Z β x v
  | [], l, r => by
    simp only [RepK] at r
    subst r
    exact .inl ⟨rfl, rfl⟩
  | (j, x) :: t, l, r => by
    simp only [RepK] at r
    obtain ⟨jj, v, s, rfl, r0, r1, r2⟩ := r
    by_cases e : j = k
    · subst e
      have : jj = kk := by
        rw [h] at r0
        exact (Option.some.inj r0).symm
      subst this
      exact .inr ⟨x, v, by simp [lookD], valV_pos rfl, r1⟩
    · have : ¬ jj = kk := fun q => e (keyD_inj (q ▸ r0) h)
      rw [valV_neg (p := (jj, v)) this]
      simp only [lookD, if_neg e]
      exact look_K h r2
theorem atKey_pos {k : NestedKey} {b : Addr} {u : Value} {r : List (NestedKey × Addr × Value)} : atKey ((k, b, u) :: r) k = some (b, u) := by simp [atKey]
theorem atKey_neg {j k : NestedKey} {b : Addr} {u : Value} {r : List (NestedKey × Addr × Value)} (h : ¬ j = k) : atKey ((j, b, u) :: r) k = atKey r k := by simp [atKey, List.find?_cons, h]
theorem look_T {P : Program} {w : World} {K : PySem.W.Frag} {Z : Hp} {β : List Addr} {k : D} (h : keyFor 1 k = true) : ∀ {kvs : List (D × D)} {l : List (NestedKey × Addr × Value)}, RepT P w K Z β kvs l →
    (lookD kvs k = none ∧ atKey l (nk k) = none) ∨ ∃ x v b u, lookD kvs k = some x ∧ atKey l (nk k) = some (b, u) ∧ RelV v u ∧ RepV P w K Z β x v
  | [], l, r => by
    simp only [RepT] at r
    subst r
    exact .inl ⟨rfl, rfl⟩
  | (j, x) :: t, l, r => by
    simp only [RepT] at r
    obtain ⟨b, u, v, s, rfl, hk, rk, ru, r1, r2⟩ := r
    by_cases e : j = k
    · subst e
      exact .inr ⟨x, v, b, u, by simp [lookD], atKey_pos, ru, r1⟩
    · rw [atKey_neg (fun q => e (nk_inj hk h q))]
      simp only [lookD, if_neg e]
      exact look_T h r2
section
variable {X : Cx} {pins : List (Addr × Obj)} {σ : L2.St} {Z : Hp} {β : List Addr} {U : Store} {H : Hp} {s : Shared} {mg : Str → Option Value} {Φ : List (Addr × HO)}
theorem flat_nested {k : D} {v : V} {u : Value} {h : Heap} (hf : flatK k = true) (r : RepV X.prog X.w X.K Z β k v) (ru : RelV v u) : NestedIs h (nk k) u := by
  cases k <;> simp [flatK] at hf <;> simp only [RepV] at r <;> subst r
  · obtain ⟨t, rfl⟩ := ru
    simp only [nk]
    exact .int _ _
  · obtain ⟨t, rfl⟩ := ru
    simp only [nk]
    exact .text _ _
theorem flats_nested {h : Heap} : ∀ {ks : List D} {vs : List V} {us : List Value}, ks.all flatK = true → RepL X.prog X.w X.K Z β ks vs → Vals vs us → NestedAll h (nkL ks) us
  | [], vs, us, _, r, rv => by
    simp only [RepL] at r
    subst r
    cases rv
    simp only [nkL]
    exact .nil
  | x :: t, vs, us, hf, r, rv => by
    simp only [RepL] at r
    obtain ⟨v, s', rfl, r1, r2⟩ := r
    simp only [List.all_cons, Bool.and_eq_true] at hf
    cases rv with
    | cons q1 q2 =>
      simp only [nkL]
      exact .cons (flat_nested hf.1 r1 q1) (flats_nested hf.2 r2 q2)
theorem tup_nested (R : Rel X.prog X.w X.K mg Φ Z β U H) (I : Inv X pins σ H s) {k : D} {v : V} {u : Value} (hk : tupK k = true) (r : RepV X.prog X.w X.K Z β k v) (ru : RelV v u) : NestedIs s.heap (nk k) u := by
  obtain ⟨ks, rfl, hf⟩ := tupK_shape hk
  simp only [RepV] at r
  obtain ⟨a, vs, rfl, st, q⟩ := r
  cases ru
  obtain ⟨its, rv, ⟨o, ho, hc, n, hd⟩, _⟩ := I.tuple (SqT.le R.zle st)
  simp only [nk]
  exact .tup ho hc hd (flats_nested hf q (by simpa using rv))
theorem key_nested (R : Rel X.prog X.w X.K mg Φ Z β U H) (I : Inv X pins σ H s) {k : D} {v : V} {u : Value} (hk : keyFor 1 k = true) (r : RepV X.prog X.w X.K Z β k v) (ru : RelV v u) : NestedIs s.heap (nk k) u := by
  simp only [keyFor, Bool.or_eq_true] at hk
  rcases hk with hk | hk
  · exact tup_nested R I hk r ru
  · obtain ⟨x, y, rfl, h1, h2⟩ := pairK_shape hk
    simp only [RepV, RepL] at r
    obtain ⟨a, vs, rfl, st, v1, s1, rfl, r1, v2, s2, rfl, r2, rfl⟩ := r
    cases ru
    obtain ⟨its, rv, ⟨o, ho, hc, n, hd⟩, _⟩ := I.tuple (SqT.le R.zle st)
    cases rv with
    | cons q1 q2 =>
      cases q2 with
      | cons q2 q3 =>
        cases q3
        simp only [nk, nkL]
        exact .tup ho hc hd (by simpa using NestedAll.cons (tup_nested R I h1 (by simpa only [RepV] using r1) q1) (.cons (tup_nested R I h2 (by simpa only [RepV] using r2) q2) .nil))
theorem key_is (R : Rel X.prog X.w X.K mg Φ Z β U H) (I : Inv X pins σ H s) {k : D} {b : Addr} (hk : keyFor 1 k = true) (r : RepV X.prog X.w X.K Z β k (.ref b)) : (nestedKind X.prog X.w).is s.heap (nk k) b :=
  ⟨key_nested R I hk r rfl, key1_depth hk⟩
theorem key1_ref {k : D} {v : V} (hk : keyFor 1 k = true) (r : RepV X.prog X.w X.K Z β k v) : ∃ b, v = .ref b := by
  simp only [keyFor, Bool.or_eq_true] at hk
  rcases hk with hk | hk
  · obtain ⟨ks, rfl, _⟩ := tupK_shape hk
    simp only [RepV] at r
    obtain ⟨a, vs, rfl, _⟩ := r
    exact ⟨a, rfl⟩
  · obtain ⟨x, y, rfl, h1, h2⟩ := pairK_shape hk
    simp only [RepV] at r
    obtain ⟨a, vs, rfl, _⟩ := r
    exact ⟨a, rfl⟩
theorem keys_are (R : Rel X.prog X.w X.K mg Φ Z β U H) (I : Inv X pins σ H s) : ∀ {kvs : List (D × D)} {l : List (NestedKey × Addr × Value)}, RepT X.prog X.w X.K Z β kvs l → ∀ x ∈ l, (nestedKind X.prog X.w).is s.heap x.1 x.2.1
  | [], l, r => by
    simp only [RepT] at r
    subst r
    intro x hx
    cases hx
  | (j, x) :: t, l, r => by
    simp only [RepT] at r
    obtain ⟨b, u, v, s', rfl, hk, rk, ru, r1, r2⟩ := r
    intro y hy
    rcases List.mem_cons.mp hy with q | hy
    · subst q
      exact key_is R I hk rk
    · exact keys_are R I r2 y hy
theorem dn_heap (R : Rel X.prog X.w X.K mg Φ Z β U H) (I : Inv X pins σ H s) {a : Addr} {l : List (NestedKey × Addr × Value)} {kvs : List (D × D)} (e : H a = some (dN X.prog X.w a l)) (nd : (l.map (·.1)).Nodup) (r : RepT X.prog X.w X.K Z β kvs l) :
    (a == sysModules) = false ∧ l.length ≤ sizeLine ∧ s.heap.DictOfH (nestedKind X.prog X.w) a l := by
  obtain ⟨⟨h1, h2, o, es, ep, ho, hx, hd, he⟩, _, _⟩ := I.hok a _ e
  exact ⟨h1, h2, o, es, ep, ho, hx, hd, he, keys_are R I r, nd⟩
theorem nroom {A : Around} (hu : A.units + 64 < cLine) : (nestedKind X.prog X.w).room A.in1 := by
  show A.units + 1 + 8 < cLine
  omega
/-- a dict, frozen or in the store -/
theorem Rel.dict {P : Program} {w : World} {K : PySem.W.Frag} (R : Rel P w K mg Φ Z β U H) {d : D} {t : Nat} {kvs : List (D × D)} {v : V} (h : asD U d = some (t, kvs)) (r : RepV P w K Z β d v) :
    ∃ a, v = .ref a ∧ ((t = 0 ∧ ∃ l, H a = some (.dK l) ∧ RepK P w K Z β kvs l) ∨ (t = 1 ∧ ∃ l, H a = some (dN P w a l) ∧ (l.map (·.1)).Nodup ∧ RepT P w K Z β kvs l)) := by
  cases d <;> simp only [asD, reduceCtorEq] at h
  · cases h
    simp only [RepV] at r
    obtain ⟨a, e, q⟩ := r
    refine ⟨a, e, ?_⟩
    rcases q with ⟨h0, l, h1, h2⟩ | ⟨h0, l, h1, h2⟩
    · exact .inl ⟨h0, l, R.zle _ _ h1, h2⟩
    · exact .inr ⟨h0, l, R.zle _ _ h1, h2⟩
  · simp only [RepV] at r
    obtain ⟨a, e, hb⟩ := r
    split at h <;> simp only [Option.some.injEq, reduceCtorEq, Prod.mk.injEq] at h
    obtain ⟨rfl, rfl⟩ := h
    rename_i hu
    exact ⟨a, e, R.obj _ _ _ hu hb⟩
variable {A : Around} {E : Value → Shared → Prop} {d k : D} {t : Nat} {kvs : List (D × D)} {v y : V} {u r : Value}
theorem vd_in {Q : Value → Shared → Prop} (hu : A.units + 64 < cLine) (R : Rel X.prog X.w X.K mg Φ Z β U H) (I : Inv X pins σ H s) (h : asD U d = some (t, kvs)) (hk : keyFor t k = true) (rd : RepV X.prog X.w X.K Z β d v) (rk : RepV X.prog X.w X.K Z β k y)
    (rv : RelV v r) (ry : RelV y u) (q : ∀ s', Inv X pins σ H s' → Q (.bool (lookD kvs k).isSome) s') : wpAny (model X.prog X.w) A (compareOp .In u r) Q E s := by
  obtain ⟨a, rfl, h⟩ := R.dict h rd
  cases rv
  rcases h with ⟨rfl, l, e, q1⟩ | ⟨rfl, l, e, nd, q1⟩
  · obtain ⟨kk, hkk⟩ := keyD_of_flat (d := k) (by simpa [keyFor] using hk)
    have := kV_of hkk rk
    subst this
    refine d_in (by omega) I (DGet.k e) ry fun s' I' => ?_
    rcases look_K hkk q1 with ⟨h1, h2⟩ | ⟨x, v, h1, h2, _⟩
    · rw [h2]; rw [h1] at q; exact q s' I'
    · rw [h2]; rw [h1] at q; exact q s' I'
  · obtain ⟨b, rfl⟩ := key1_ref hk rk
    cases ry
    obtain ⟨hs, hl, dd⟩ := dn_heap R I e nd q1
    refine wpAny_in_heap (nroom hu) (key_is R I hk rk) hs dd ?_
    rcases look_T hk q1 with ⟨h1, h2⟩ | ⟨x, v, b', u', h1, h2, _⟩
    · rw [h2]; rw [h1] at q; exact q _ (I.tok _)
    · rw [h2]; rw [h1] at q; exact q _ (I.tok _)
theorem vd_notIn {Q : Value → Shared → Prop} (hu : A.units + 64 < cLine) (R : Rel X.prog X.w X.K mg Φ Z β U H) (I : Inv X pins σ H s) (h : asD U d = some (t, kvs)) (hk : keyFor t k = true) (rd : RepV X.prog X.w X.K Z β d v) (rk : RepV X.prog X.w X.K Z β k y)
    (rv : RelV v r) (ry : RelV y u) (q : ∀ s', Inv X pins σ H s' → Q (.bool (!(lookD kvs k).isSome)) s') : wpAny (model X.prog X.w) A (compareOp .NotIn u r) Q E s := by
  obtain ⟨a, rfl, h⟩ := R.dict h rd
  cases rv
  rcases h with ⟨rfl, l, e, q1⟩ | ⟨rfl, l, e, nd, q1⟩
  · obtain ⟨kk, hkk⟩ := keyD_of_flat (d := k) (by simpa [keyFor] using hk)
    have := kV_of hkk rk
    subst this
    refine d_notIn (by omega) I (DGet.k e) ry fun s' I' => ?_
    rcases look_K hkk q1 with ⟨h1, h2⟩ | ⟨x, v, h1, h2, _⟩
    · rw [h2]; rw [h1] at q; exact q s' I'
    · rw [h2]; rw [h1] at q; exact q s' I'
  · obtain ⟨b, rfl⟩ := key1_ref hk rk
    cases ry
    obtain ⟨hs, hl, dd⟩ := dn_heap R I e nd q1
    refine notIn_keyed (nroom hu) (key_is R I hk rk) hs ⟨_, dd, rfl⟩ ?_
    rw [valueAt_pairsH, Option.isSome_map]
    rcases look_T hk q1 with ⟨h1, h2⟩ | ⟨x, v, b', u', h1, h2, _⟩
    · rw [h2]; rw [h1] at q; exact q _ (I.tok _)
    · rw [h2]; rw [h1] at q; exact q _ (I.tok _)
theorem vd_get {x : D} {Q : Value → Shared → Prop} (hu : A.units + 64 < cLine) (R : Rel X.prog X.w X.K mg Φ Z β U H) (I : Inv X pins σ H s) (h : asD U d = some (t, kvs)) (hk : keyFor t k = true) (rd : RepV X.prog X.w X.K Z β d v) (rk : RepV X.prog X.w X.K Z β k y)
    (rv : RelV v r) (ry : RelV y u) (hx : lookD kvs k = some x) (q : ∀ z z' s', Inv X pins σ H s' → RelV z z' → RepV X.prog X.w X.K Z β x z → Q z' s') : wpAny (model X.prog X.w) A (getItem r u) Q E s := by
  obtain ⟨a, rfl, h⟩ := R.dict h rd
  cases rv
  rcases h with ⟨rfl, l, e, q1⟩ | ⟨rfl, l, e, nd, q1⟩
  · obtain ⟨kk, hkk⟩ := keyD_of_flat (d := k) (by simpa [keyFor] using hk)
    have := kV_of hkk rk
    subst this
    rcases look_K hkk q1 with ⟨h1, h2⟩ | ⟨x', v, h1, h2, r1⟩
    · rw [h1] at hx; cases hx
    · rw [h1] at hx
      cases hx
      refine d_getItem (v := v) (by omega) I (by rw [← h2]; exact DGet.k e) ry fun w' s' I' rw' => q v w' s' I' rw' r1
  · obtain ⟨b, rfl⟩ := key1_ref hk rk
    cases ry
    obtain ⟨hs, hl, dd⟩ := dn_heap R I e nd q1
    rcases look_T hk q1 with ⟨h1, h2⟩ | ⟨x', v, b', u', h1, h2, ru, r1⟩
    · rw [h1] at hx; cases hx
    · rw [h1] at hx
      cases hx
      exact wpAny_getItem_heap (nroom hu) (key_is R I hk rk) dd h2 (q v u' _ (I.tok _) ru r1)
/-- d.get(k), d.get(k, x) -/
theorem vd_get1 {Q : Value → Shared → Prop} (hu : A.units + 64 < cLine) (R : Rel X.prog X.w X.K mg Φ Z β U H) (I : Inv X pins σ H s) (h : asD U d = some (t, kvs)) (hk : keyFor t k = true) (rd : RepV X.prog X.w X.K Z β d v) (rk : RepV X.prog X.w X.K Z β k y)
    (rv : RelV v r) (ry : RelV y u) (q : ∀ z z' s', Inv X pins σ H s' → RelV z z' → RepV X.prog X.w X.K Z β ((lookD kvs k).getD .non) z → Q z' s') : wpAny (model X.prog X.w) A (call (.builtin "dict.get") [r, u]) Q E s := by
  obtain ⟨a, rfl, h⟩ := R.dict h rd
  cases rv
  have rn : RepV X.prog X.w X.K Z β .non .non := by simp only [RepV]
  rcases h with ⟨rfl, l, e, q1⟩ | ⟨rfl, l, e, nd, q1⟩
  · obtain ⟨kk, hkk⟩ := keyD_of_flat (d := k) (by simpa [keyFor] using hk)
    have := kV_of hkk rk
    subst this
    refine d_get1 (by omega) I (DGet.k e) ry fun w' s' I' rw' => ?_
    rcases look_K hkk q1 with ⟨h1, h2⟩ | ⟨x', v, h1, h2, r1⟩
    · rw [h2] at rw'
      rw [h1] at q
      exact q _ w' s' I' rw' rn
    · rw [h2] at rw'
      rw [h1] at q
      exact q _ w' s' I' rw' r1
  · obtain ⟨b, rfl⟩ := key1_ref hk rk
    cases ry
    obtain ⟨hs, hl, dd⟩ := dn_heap R I e nd q1
    refine get_keyed (nroom hu) (key_is R I hk rk) hs ⟨_, dd, rfl⟩ ?_
    rw [valueAt_pairsH]
    rcases look_T hk q1 with ⟨h1, h2⟩ | ⟨x', v, b', u', h1, h2, ru, r1⟩
    · rw [h2]
      rw [h1] at q
      exact q .non _ _ (I.tok _) rfl rn
    · rw [h2]
      rw [h1] at q
      exact q v u' _ (I.tok _) ru r1
theorem vd_get2 {x : D} {z₀ : V} {r₀ : Value} {Q : Value → Shared → Prop} (hu : A.units + 64 < cLine) (R : Rel X.prog X.w X.K mg Φ Z β U H) (I : Inv X pins σ H s) (h : asD U d = some (t, kvs)) (hk : keyFor t k = true) (rd : RepV X.prog X.w X.K Z β d v) (rk : RepV X.prog X.w X.K Z β k y)
    (rx : RepV X.prog X.w X.K Z β x z₀) (rv : RelV v r) (ry : RelV y u) (rz : RelV z₀ r₀) (q : ∀ z z' s', Inv X pins σ H s' → RelV z z' → RepV X.prog X.w X.K Z β ((lookD kvs k).getD x) z → Q z' s') : wpAny (model X.prog X.w) A (call (.builtin "dict.get") [r, u, r₀]) Q E s := by
  obtain ⟨a, rfl, h⟩ := R.dict h rd
  cases rv
  rcases h with ⟨rfl, l, e, q1⟩ | ⟨rfl, l, e, nd, q1⟩
  · obtain ⟨kk, hkk⟩ := keyD_of_flat (d := k) (by simpa [keyFor] using hk)
    have := kV_of hkk rk
    subst this
    refine d_get2 (by omega) I (DGet.k e) ry rz fun w' s' I' rw' => ?_
    rcases look_K hkk q1 with ⟨h1, h2⟩ | ⟨x', v, h1, h2, r1⟩
    · rw [h2] at rw'
      rw [h1] at q
      exact q _ w' s' I' rw' rx
    · rw [h2] at rw'
      rw [h1] at q
      exact q _ w' s' I' rw' r1
  · obtain ⟨b, rfl⟩ := key1_ref hk rk
    cases ry
    obtain ⟨hs, hl, dd⟩ := dn_heap R I e nd q1
    refine getOr_keyed (nroom hu) (key_is R I hk rk) hs ⟨_, dd, rfl⟩ ?_
    rw [valueAt_pairsH]
    rcases look_T hk q1 with ⟨h1, h2⟩ | ⟨x', v, b', u', h1, h2, ru, r1⟩
    · rw [h2]
      rw [h1] at q
      exact q z₀ r₀ _ (I.tok _) rz rx
    · rw [h2]
      rw [h1] at q
      exact q v u' _ (I.tok _) ru r1
/-- puts, drops -/
theorem put_K {P : Program} {w : World} {K : PySem.W.Frag} {kk : Key} (h : keyD k = some kk) {x : D} (rx : RepV P w K Z β x v) : ∀ {kvs : List (D × D)} {l : List (Key × V)}, RepK P w K Z β kvs l → (l.map (·.1)).Nodup → RepK P w K Z β (putD kvs k x) (putK l kk v)
  | [], l, q, _ => by
    simp only [RepK] at q
    subst q
    simp only [putD, RepK, putK]
    exact ⟨kk, v, [], rfl, h, rx, rfl⟩
  | (j, y) :: t, l, q, nd => by
    simp only [RepK] at q
    obtain ⟨jj, v1, s', rfl, r0, r1, r2⟩ := q
    simp only [List.map_cons, List.nodup_cons] at nd
    by_cases e : j = k
    · subst e
      have : jj = kk := by
        rw [h] at r0
        exact (Option.some.inj r0).symm
      subst this
      have ep : putK ((jj, v1) :: s') jj v = (jj, v) :: s' := by
        unfold putK
        rw [if_pos (by simp)]
        simp only [List.map_cons, if_true]
        congr 1
        have : ∀ p ∈ s', (if p.1 = jj then (p.1, v) else p) = p := fun p hp => if_neg fun q => nd.1 (List.mem_map.mpr ⟨p, hp, q⟩)
        rw [List.map_congr_left this]
        simp
      rw [ep]
      simp only [putD, if_true, RepK]
      exact ⟨jj, v, s', rfl, r0, rx, r2⟩
    · have hne : ¬ jj = kk := fun q => e (keyD_inj (q ▸ r0) h)
      have ep : putK ((jj, v1) :: s') kk v = (jj, v1) :: putK s' kk v := by
        unfold putK
        simp only [List.any_cons, hne, decide_false, Bool.false_or, List.map_cons, if_neg hne, List.cons_append]
        split <;> rfl
      rw [ep]
      simp only [putD, if_neg e, RepK]
      exact ⟨jj, v1, _, rfl, r0, r1, put_K h rx r2 nd.2⟩
theorem put_T {P : Program} {w : World} {K : PySem.W.Frag} (h : keyFor 1 k = true) {x : D} {b : Addr} (rb : RepV P w K Z β k (.ref b)) (rx : RepV P w K Z β x v) (ru : RelV v u) : ∀ {kvs : List (D × D)} {l : List (NestedKey × Addr × Value)}, RepT P w K Z β kvs l → (l.map (·.1)).Nodup → RepT P w K Z β (putD kvs k x) (storedH l (nk k) b u)
  | [], l, q, _ => by
    simp only [RepT] at q
    subst q
    simp only [putD, RepT]
    exact ⟨b, u, v, [], rfl, h, rb, ru, rx, rfl⟩
  | (j, y) :: t, l, q, nd => by
    simp only [RepT] at q
    obtain ⟨c, u1, v1, s', rfl, hk, rk, r0, r1, r2⟩ := q
    simp only [List.map_cons, List.nodup_cons] at nd
    by_cases e : j = k
    · subst e
      have ep : storedH ((nk j, c, u1) :: s') (nk j) b u = (nk j, c, u) :: s' := by
        unfold storedH
        rw [if_pos (by rw [atKey_pos]; rfl)]
        simp only [List.map_cons, putAt, if_true]
        congr 1
        have : ∀ p ∈ s', putAt (nk j) u p = p := fun p hp => by
          unfold putAt
          exact if_neg fun q => nd.1 (List.mem_map.mpr ⟨p, hp, q⟩)
        rw [List.map_congr_left this]
        simp
      rw [ep]
      simp only [putD, if_true, RepT]
      exact ⟨c, u, v, s', rfl, hk, rk, ru, rx, r2⟩
    · have hne : ¬ nk j = nk k := fun q => e (nk_inj hk h q)
      have ep : storedH ((nk j, c, u1) :: s') (nk k) b u = (nk j, c, u1) :: storedH s' (nk k) b u := by
        unfold storedH
        rw [atKey_neg hne]
        simp only [List.map_cons, putAt, if_neg hne, List.cons_append]
        split <;> rfl
      rw [ep]
      simp only [putD, if_neg e, RepT]
      exact ⟨c, u1, v1, _, rfl, hk, rk, r0, r1, put_T h rb rx ru r2 nd.2⟩
theorem drop_K {P : Program} {w : World} {K : PySem.W.Frag} {kk : Key} (h : keyD k = some kk) : ∀ {kvs : List (D × D)} {l : List (Key × V)}, RepK P w K Z β kvs l → (l.map (·.1)).Nodup → RepK P w K Z β (dropD kvs k) (dropK l kk)
  | [], l, q, _ => by
    simp only [RepK] at q
    subst q
    simp only [dropD, RepK, dropK]
    rfl
  | (j, y) :: t, l, q, nd => by
    simp only [RepK] at q
    obtain ⟨jj, v1, s', rfl, r0, r1, r2⟩ := q
    simp only [List.map_cons, List.nodup_cons] at nd
    by_cases e : j = k
    · subst e
      have : jj = kk := by
        rw [h] at r0
        exact (Option.some.inj r0).symm
      subst this
      have ep : dropK ((jj, v1) :: s') jj = s' := by
        unfold dropK
        rw [List.filter_cons, if_neg (by simp)]
        exact List.filter_eq_self.mpr fun p hp => decide_eq_true fun q => nd.1 (List.mem_map.mpr ⟨p, hp, q⟩)
      rw [ep]
      simp only [dropD, if_true]
      exact r2
    · have hne : ¬ jj = kk := fun q => e (keyD_inj (q ▸ r0) h)
      have ep : dropK ((jj, v1) :: s') kk = (jj, v1) :: dropK s' kk := by
        unfold dropK
        rw [List.filter_cons, if_pos (by simpa using hne)]
      rw [ep]
      simp only [dropD, if_neg e, RepK]
      exact ⟨jj, v1, _, rfl, r0, r1, drop_K h r2 nd.2⟩
theorem drop_T {P : Program} {w : World} {K : PySem.W.Frag} (h : keyFor 1 k = true) : ∀ {kvs : List (D × D)} {l : List (NestedKey × Addr × Value)}, RepT P w K Z β kvs l → (l.map (·.1)).Nodup → RepT P w K Z β (dropD kvs k) (withoutH l (nk k))
  | [], l, q, _ => by
    simp only [RepT] at q
    subst q
    simp only [dropD, RepT, withoutH]
    rfl
  | (j, y) :: t, l, q, nd => by
    simp only [RepT] at q
    obtain ⟨c, u1, v1, s', rfl, hk, rk, r0, r1, r2⟩ := q
    simp only [List.map_cons, List.nodup_cons] at nd
    by_cases e : j = k
    · subst e
      have ep : withoutH ((nk j, c, u1) :: s') (nk j) = s' := by
        unfold withoutH
        rw [List.filter_cons, if_neg (by simp)]
        exact List.filter_eq_self.mpr fun p hp => decide_eq_true fun q => nd.1 (List.mem_map.mpr ⟨p, hp, q⟩)
      rw [ep]
      simp only [dropD, if_true]
      exact r2
    · have hne : ¬ nk j = nk k := fun q => e (nk_inj hk h q)
      have ep : withoutH ((nk j, c, u1) :: s') (nk k) = (nk j, c, u1) :: withoutH s' (nk k) := by
        unfold withoutH
        rw [List.filter_cons, if_pos (by simpa using hne)]
      rw [ep]
      simp only [dropD, if_neg e, RepT]
      exact ⟨c, u1, v1, _, rfl, hk, rk, r0, r1, drop_T h r2 nd.2⟩
theorem nodup_put {l : List (NestedKey × Addr × Value)} {kk : NestedKey} {b : Addr} (nd : (l.map (·.1)).Nodup) : ((storedH l kk b u).map (·.1)).Nodup := by
  have e := congrArg (List.map (·.1)) (pairsH_storedH l kk b u)
  have e1 : (pairsH (storedH l kk b u)).map (·.1) = (storedH l kk b u).map (·.1) := by simp [pairsH, Function.comp_def]
  have e2 : (pairsH l).map (·.1) = l.map (·.1) := by simp [pairsH, Function.comp_def]
  rw [← e1, e, keys_stored, e2]
  split
  · exact nd
  · rename_i hn
    rw [List.nodup_append]
    exact ⟨nd, by simp, fun a ha b hb => by simp only [List.mem_singleton] at hb; subst hb; exact fun q => hn (q ▸ ha)⟩
theorem nodup_drop {l : List (NestedKey × Addr × Value)} {kk : NestedKey} (nd : (l.map (·.1)).Nodup) : ((withoutH l kk).map (·.1)).Nodup := nd.sublist ((List.filter_sublist (l := l)).map _)
theorem storedH_len (l : List (NestedKey × Addr × Value)) (kk : NestedKey) (b : Addr) (u : Value) : (storedH l kk b u).length ≤ l.length + 1 := by
  unfold storedH
  split <;> simp
theorem dn_ok {P : Program} {w : World} {H' : Hp} {h' : Heap} {a : Addr} {l : List (NestedKey × Addr × Value)} (h1 : (a == sysModules) = false) (h2 : l.length ≤ sizeLine) (dd : h'.DictOfH (nestedKind P w) a l) : ObjOk P w H' h' a (dN P w a l) := by
  obtain ⟨o, es, ep, ho, hx, hd, he, _, _⟩ := dd
  refine ⟨⟨h1, h2, o, es, ep, ho, hx, hd, he⟩, ⟨o, ho⟩, ?_⟩
  rintro g1 g2 ⟨_, _, o', es', ep', ho', hx', hd', he'⟩ st
  exact ⟨h1, h2, o', es', ep', st o' ho', hx', hd', he'⟩
theorem dk_nodup (I : Inv X pins σ H s) {a : Addr} {l : List (Key × V)} (e : H a = some (.dK l)) : (l.map (·.1)).Nodup := by
  obtain ⟨_, _, vs, rel, o, es, ep, _, _, _, _, nd⟩ := dk_of I.hok e
  rw [rel.keys]
  exact nd.2
theorem repK_len {P : Program} {w : World} {K : PySem.W.Frag} : ∀ {kvs : List (D × D)} {l : List (Key × V)}, RepK P w K Z β kvs l → kvs.length = l.length
  | [], l, q => by
    simp only [RepK] at q
    subst q
    rfl
  | (j, y) :: t, l, q => by
    simp only [RepK] at q
    obtain ⟨_, _, s', rfl, _, _, r2⟩ := q
    simp [repK_len r2]
theorem repT_len {P : Program} {w : World} {K : PySem.W.Frag} : ∀ {kvs : List (D × D)} {l : List (NestedKey × Addr × Value)}, RepT P w K Z β kvs l → kvs.length = l.length
  | [], l, q => by
    simp only [RepT] at q
    subst q
    rfl
  | (j, y) :: t, l, q => by
    simp only [RepT] at q
    obtain ⟨_, _, _, s', rfl, _, _, _, _, r2⟩ := q
    simp [repT_len r2]
/-- d[k] = x of the store's dict n -/
theorem vs_set {n : Nat} {x : D} {z : V} {r₀ : Value} {Q : Unit → Shared → Prop} (hu : A.units + 64 < cLine) (R : Rel X.prog X.w X.K mg Φ Z β U H) (I : Inv X pins σ H s) (h : U[n]? = some (.dct t kvs)) (hk : keyFor t k = true) (hl : kvs.length < SZ)
    (rd : RepV X.prog X.w X.K Z β (.ref n) v) (rk : RepV X.prog X.w X.K Z β k y) (rx : RepV X.prog X.w X.K Z β x z) (rv : RelV v r) (ry : RelV y u) (rz : RelV z r₀)
    (q : ∀ H' s', Inv X pins σ H' s' → Rel X.prog X.w X.K mg Φ Z β (U.set n (.dct t (putD kvs k x))) H' → Q () s') : wpAny (model X.prog X.w) A (setItem r u r₀) Q E s := by
  simp only [RepV] at rd
  obtain ⟨a, rfl, hb⟩ := rd
  cases rv
  rw [SZ_eq] at hl
  rcases R.obj _ _ _ h hb with ⟨rfl, l, e, q1⟩ | ⟨rfl, l, e, nd, q1⟩
  · obtain ⟨kk, hkk⟩ := keyD_of_flat (d := k) (by simpa [keyFor] using hk)
    have := kV_of hkk rk
    subst this
    refine d_setItem (by omega) I (DPut.k e (by rw [← repK_len q1]; exact hl)) ry rz fun s' I' => q _ s' I' ?_
    exact R.write hb (.inl ⟨rfl, _, L2.upd_same, put_K hkk rx q1 (dk_nodup I e)⟩)
  · obtain ⟨b, rfl⟩ := key1_ref hk rk
    cases ry
    obtain ⟨hs, hl2, dd⟩ := dn_heap R I e nd q1
    refine wpAny_setItem_heap (hsz := hl2) (nroom hu) (key_is R I hk rk) dd fun h' dd' sb => ?_
    have hz : (storedH l (nk k) b r₀).length ≤ sizeLine := by
      have := storedH_len l (nk k) b r₀
      have := repT_len q1
      omega
    obtain ⟨ob, es, ep, hq, _⟩ := id dd'
    refine q _ _ (d_write I (by rw [e]; exact True.intro) sb ⟨ob, hq⟩ (dn_ok hs hz dd')) ?_
    exact R.write hb (.inr ⟨rfl, _, L2.upd_same, nodup_put nd, put_T hk rk rx rz q1 nd⟩)
/-- d.setdefault(k, x) -/
theorem vs_setd {n : Nat} {x : D} {z : V} {r₀ : Value} {Q : Value → Shared → Prop} (hu : A.units + 64 < cLine) (R : Rel X.prog X.w X.K mg Φ Z β U H) (I : Inv X pins σ H s) (h : U[n]? = some (.dct t kvs)) (hk : keyFor t k = true) (hl : kvs.length < SZ)
    (rd : RepV X.prog X.w X.K Z β (.ref n) v) (rk : RepV X.prog X.w X.K Z β k y) (rx : RepV X.prog X.w X.K Z β x z) (rv : RelV v r) (ry : RelV y u) (rz : RelV z r₀)
    (q1 : ∀ o, lookD kvs k = some o → ∀ z z' s', Inv X pins σ H s' → RelV z z' → RepV X.prog X.w X.K Z β o z → Q z' s')
    (q2 : lookD kvs k = none → ∀ H' s' z z', Inv X pins σ H' s' → Rel X.prog X.w X.K mg Φ Z β (U.set n (.dct t (putD kvs k x))) H' → RelV z z' → RepV X.prog X.w X.K Z β x z → Q z' s') : wpAny (model X.prog X.w) A (call (.builtin "dict.setdefault") [r, u, r₀]) Q E s := by
  simp only [RepV] at rd
  obtain ⟨a, rfl, hb⟩ := rd
  cases rv
  rw [SZ_eq] at hl
  rcases R.obj _ _ _ h hb with ⟨rfl, l, e, qk⟩ | ⟨rfl, l, e, nd, qk⟩
  · obtain ⟨kk, hkk⟩ := keyD_of_flat (d := k) (by simpa [keyFor] using hk)
    have := kV_of hkk rk
    subst this
    refine d_setd I e ry rz (by rw [← repK_len qk]; exact hl) (fun v hv w' s' I' rw' => ?_) (fun hn w' s' I' rw' => ?_)
    · rcases look_K hkk qk with ⟨h1, h2⟩ | ⟨x', v', h1, h2, r1⟩
      · rw [h2] at hv; cases hv
      · rw [h2] at hv
        cases hv
        exact q1 _ h1 _ _ s' I' rw' r1
    · rcases look_K hkk qk with ⟨h1, h2⟩ | ⟨x', v', h1, h2, r1⟩
      · exact q2 h1 _ s' z w' I' (R.write hb (.inl ⟨rfl, _, L2.upd_same, put_K hkk rx qk (dk_nodup I e)⟩)) rw' rx
      · rw [h2] at hn; cases hn
  · obtain ⟨b, rfl⟩ := key1_ref hk rk
    cases ry
    obtain ⟨hs, hl2, dd⟩ := dn_heap R I e nd qk
    refine call_setdefault_heap (hsz := hl2) (nroom hu) (key_is R I hk rk) hs dd (fun p hp => ?_) fun hn h' dd' sb => ?_
    · rcases look_T hk qk with ⟨h1, h2⟩ | ⟨x', v', b', u', h1, h2, ru, r1⟩
      · rw [h2] at hp; cases hp
      · rw [h2] at hp
        cases hp
        exact q1 _ h1 _ _ _ (I.tok _) ru r1
    · rcases look_T hk qk with ⟨h1, h2⟩ | ⟨x', v', b', u', h1, h2, ru, r1⟩
      · have hz : (storedH l (nk k) b r₀).length ≤ sizeLine := by
          have := storedH_len l (nk k) b r₀
          have := repT_len qk
          omega
        obtain ⟨ob, es, ep, hq, _⟩ := id dd'
        exact q2 h1 _ _ z r₀ (d_write I (by rw [e]; exact True.intro) sb ⟨ob, hq⟩ (dn_ok hs hz dd')) (R.write hb (.inr ⟨rfl, _, L2.upd_same, nodup_put nd, put_T hk rk rx rz qk nd⟩)) rz rx
      · rw [h2] at hn; cases hn
/-- d.pop(k), there -/
theorem vs_pop {n : Nat} {x : D} {Q : Value → Shared → Prop} (hu : A.units + 64 < cLine) (R : Rel X.prog X.w X.K mg Φ Z β U H) (I : Inv X pins σ H s) (h : U[n]? = some (.dct t kvs)) (hk : keyFor t k = true) (hx : lookD kvs k = some x)
    (rd : RepV X.prog X.w X.K Z β (.ref n) v) (rk : RepV X.prog X.w X.K Z β k y) (rv : RelV v r) (ry : RelV y u)
    (q : ∀ H' s' z z', Inv X pins σ H' s' → Rel X.prog X.w X.K mg Φ Z β (U.set n (.dct t (dropD kvs k))) H' → RelV z z' → RepV X.prog X.w X.K Z β x z → Q z' s') : wpAny (model X.prog X.w) A (call (.builtin "dict.pop") [r, u]) Q E s := by
  simp only [RepV] at rd
  obtain ⟨a, rfl, hb⟩ := rd
  cases rv
  rcases R.obj _ _ _ h hb with ⟨rfl, l, e, q1⟩ | ⟨rfl, l, e, nd, q1⟩
  · obtain ⟨kk, hkk⟩ := keyD_of_flat (d := k) (by simpa [keyFor] using hk)
    have := kV_of hkk rk
    subst this
    rcases look_K hkk q1 with ⟨h1, h2⟩ | ⟨x', v, h1, h2, r1⟩
    · rw [h1] at hx; cases hx
    · rw [h1] at hx
      cases hx
      refine d_pop (v := v) (more := []) I e ry h2 (.inl rfl) fun w' s' I' rw' => q _ s' v w' I' ?_ rw' r1
      exact R.write hb (.inl ⟨rfl, _, L2.upd_same, drop_K hkk q1 (dk_nodup I e)⟩)
  · obtain ⟨b, rfl⟩ := key1_ref hk rk
    cases ry
    obtain ⟨hs, hl2, dd⟩ := dn_heap R I e nd q1
    rcases look_T hk q1 with ⟨h1, h2⟩ | ⟨x', v, b', u', h1, h2, ru, r1⟩
    · rw [h1] at hx; cases hx
    · rw [h1] at hx
      cases hx
      refine call_pop_heap (hsz := hl2) (more := []) (.inl rfl) (PySem.F.args_dict_pop_2 _ _) (nroom hu) (key_is R I hk rk) hs dd h2 fun h' dd' sb => ?_
      have hz : (withoutH l (nk k)).length ≤ sizeLine := Nat.le_trans (List.length_filter_le _ _) hl2
      obtain ⟨ob, es, ep, hq, _⟩ := id dd'
      exact q _ _ v u' (d_write I (by rw [e]; exact True.intro) sb ⟨ob, hq⟩ (dn_ok hs hz dd')) (R.write hb (.inr ⟨rfl, _, L2.upd_same, nodup_drop nd, drop_T hk q1 nd⟩)) ru r1
end
end VI

/-! VIb5: in, is, order, truth, items, slices, by values. -/
namespace VI
open PySem PySem.Spec PyProof.Rows L2
section
variable {X : Cx}
theorem flats_rep {P : Program} {w : World} {K : PySem.W.Frag} {Z : Hp} {β : List Addr} {a : D} {x : V} (fa : flat a = true) (ra : RepV P w K Z β a x) : ∀ {ys : List D} {vs : List V}, ys.all flat = true → RepL P w K Z β ys vs → vs.all flatV = true ∧ inV x vs = ys.any fun y => pyeq y a
  | [], vs, _, r => by
    simp only [RepL] at r
    subst r
    exact ⟨rfl, rfl⟩
  | y :: t, vs, h, r => by
    simp only [RepL] at r
    obtain ⟨v, s, rfl, r1, r2⟩ := r
    simp only [List.all_cons, Bool.and_eq_true] at h
    obtain ⟨h1, h2⟩ := flat_eqV h.1 fa r1 ra
    obtain ⟨h3, h4⟩ := flats_rep fa ra h.2 r2
    refine ⟨by simp [h1, h3], ?_⟩
    unfold inV at h4 ⊢
    rw [List.any_cons, List.any_cons, h2, h4]
theorem inL_rep {P : Program} {w : World} {K : PySem.W.Frag} {mg : Str → Option Value} {Φ : List (Addr × HO)} {Z : Hp} {β : List Addr} {U : Store} {H : Hp} {a b : D} {x y : V} {xs : List D} {k : Bool} (R : Rel P w K mg Φ Z β U H) (ra : RepV P w K Z β a x) (rb : RepV P w K Z β b y) (hq : asQ U b = some xs) (e : inL U a b xs = some k) :
    (∃ p vs, y = .ref p ∧ (SqL K H p vs ∨ SqT K H p vs) ∧ flatV x = true ∧ vs.all flatV = true ∧ inV x vs = k) ∨
    ∃ d ds, Dp K H x d ∧ Dp K H y (.list ds) ∧ SeqAt.shaped d = true ∧ SeqAt.shaped (.list ds) = true ∧ (ds.any fun z => PyData.eqv z d) = k := by
  obtain ⟨p, vs, rfl, sq, q⟩ := R.seq hq rb
  unfold inL at e
  split at e
  · rename_i x' ys hs
    cases e
    unfold snaps at hs
    split at hs
    · rename_i hf
      simp only [Bool.and_eq_true] at hf
      cases hs
      obtain ⟨h1, h2⟩ := flats_rep hf.1 ra hf.2 q
      refine .inl ⟨p, vs, rfl, sq, ?_, h1, h2⟩
      cases a <;> simp [flat] at hf <;> simp only [RepV] at ra <;> subst ra <;> rfl
    · split at hs
      · rename_i hl h1 h2
        split at hs
        · rename_i hp
          simp only [Bool.and_eq_true] at hp
          cases hs
          obtain ⟨p', vs', e', sl, q'⟩ := R.list hl rb
          cases e'
          have : (∃ zs, asL U b = some zs) := ⟨_, hl⟩
          have exs : ∀ zs, asL U b = some zs → asQ U b = some zs := fun zs hz => by
            cases b <;> simp_all [asQ, asL]
          have := exs _ hl
          rw [hq] at this
          cases this
          refine .inr ⟨_, _, dp_of hp.1 (snap_rep R h1 ra), .lst sl (dpL_of hp.2 (snapL_rep R h2 q')), shaped_toP hp.1, ?_, ?_⟩
          · have := lay_toPL _ 39 hp.2
            show (PyData.canLay0 (.list (toPL ys)) && decide ((PyData.list (toPL ys)).depth ≤ 64)) = true
            rw [Bool.and_eq_true]
            simp only [PyData.canLay0, PyData.depth]
            exact ⟨this.1, decide_eq_true (by omega)⟩
          · rw [toPL_map, List.any_map]
            have : ∀ zs : List D, plainL zs 39 = true → (zs.any ((fun z => PyData.eqv z (toP x')) ∘ toP)) = zs.any fun y => pyeq y x' := by
              intro zs
              induction zs with
              | nil => intro _; rfl
              | cons z r ih =>
                intro hz
                simp only [plainL, Bool.and_eq_true] at hz
                rw [List.any_cons, List.any_cons, ih hz.2, Function.comp_apply, eqv_toP z x' 39 40 hz.1 hp.1]
            exact this ys hp.2
        · cases hs
      · cases hs
  · cases e
theorem or_in (hu : X.A.units + 65 < cLine) : OpR X (compareOp .In) (rc X.prog X.w X.K X.mg .isIn) := by
  intro pins s σ H x y v u Q I rx ry ⟨Φ, Z, β, U, a, b, k, R, ra, rb, e, q⟩
  change member U a b = some k at e
  unfold member at e
  split at e
  · split at e
    · cases e
      simp only [RepV] at ra rb
      subst ra rb
      exact op_in_sign pins s σ H _ _ v u Q I rx ry ⟨_, _, rfl, rfl, by simpa using q⟩
    · cases e
  · split at e
    · rename_i xs hq
      rcases inL_rep R ra rb hq e with ⟨p, vs, rfl, sq, h1, h2, h3⟩ | ⟨d, ds, h1, h2, h3, h4, h5⟩
      · exact op_in_seq pins s σ H _ _ v u Q I rx ry ⟨p, vs, rfl, sq, h1, h2, by simp only [Bool.false_eq_true, if_false]; rw [h3]; exact q⟩
      · exact L2.op_inD hu pins s σ H _ _ v u Q I rx ry ⟨d, ds, h1, h2, h3, h4, by rw [h5]; exact q⟩
    · unfold hasD at e
      split at e
      · rename_i t kvs hd
        split at e
        · cases e
          exact vd_in (by omega) R I hd (by assumption) rb ra ry rx fun s' I' => ⟨.bl _, H, I', rfl, q⟩
        · cases e
      · cases e
theorem or_notIn (hu : X.A.units + 65 < cLine) : OpR X (compareOp .NotIn) (rc X.prog X.w X.K X.mg .notIn) := by
  intro pins s σ H x y v u Q I rx ry ⟨Φ, Z, β, U, a, b, k, R, ra, rb, e, q⟩
  change (member U a b).map (! ·) = some k at e
  rw [Option.map_eq_some_iff] at e
  obtain ⟨k, e, rfl⟩ := e
  unfold member at e
  split at e
  · split at e
    · cases e
      simp only [RepV] at ra rb
      subst ra rb
      exact op_notIn_sign pins s σ H _ _ v u Q I rx ry ⟨_, _, rfl, rfl, by simpa using q⟩
    · cases e
  · split at e
    · rename_i xs hq
      rcases inL_rep R ra rb hq e with ⟨p, vs, rfl, sq, h1, h2, h3⟩ | ⟨d, ds, h1, h2, h3, h4, h5⟩
      · exact op_notIn_seq pins s σ H _ _ v u Q I rx ry ⟨p, vs, rfl, sq, h1, h2, by simp only [if_true]; rw [h3]; exact q⟩
      · exact L2.op_notInD hu pins s σ H _ _ v u Q I rx ry ⟨d, ds, h1, h2, h3, h4, by rw [h5]; exact q⟩
    · unfold hasD at e
      split at e
      · rename_i t kvs hd
        split at e
        · cases e
          exact vd_notIn (by omega) R I hd (by assumption) rb ra ry rx fun s' I' => ⟨.bl _, H, I', rfl, q⟩
        · cases e
      · cases e
theorem non_rep {P : Program} {w : World} {K : PySem.W.Frag} {Z : Hp} {β : List Addr} {a : D} {x : V} (ra : RepV P w K Z β a x) : decide (x = .non) = (match a with | .non => true | _ => false) := by
  cases a <;> simp only [RepV] at ra
  · subst ra; rfl
  · subst ra; rfl
  · subst ra; rfl
  · subst ra; rfl
  · obtain ⟨_, _, rfl, _⟩ := ra; rfl
  · obtain ⟨_, _, rfl, _⟩ := ra; rfl
  · obtain ⟨_, rfl, _⟩ := ra; rfl
  · obtain ⟨_, rfl, _⟩ := ra; rfl
theorem or_is : OpR X (compareOp .Is) (rc X.prog X.w X.K X.mg .is) := by
  refine OpR.imp (op_isN.or op_isBl) ?_
  rintro x y H Q ⟨Φ, Z, β, U, a, b, k, R, ra, rb, e, q⟩
  simp only [cmpop] at e
  split at e
  · have hb : y = .non := by simpa only [RepV] using rb
    refine .inl ⟨hb, ?_⟩
    rw [non_rep ra]
    split at e <;> cases e
    · exact q
    · rename_i hn
      split
      · exact absurd rfl hn
      · exact q
  · cases e
    simp only [RepV] at ra rb
    exact .inr ⟨_, _, ra, rb, q⟩
  · cases e
theorem or_isNot : OpR X (compareOp .IsNot) (rc X.prog X.w X.K X.mg .isNot) := by
  refine OpR.imp (op_notN.or op_notBl) ?_
  rintro x y H Q ⟨Φ, Z, β, U, a, b, k, R, ra, rb, e, q⟩
  simp only [cmpop] at e
  split at e
  · have hb : y = .non := by simpa only [RepV] using rb
    refine .inl ⟨hb, ?_⟩
    rw [non_rep ra]
    split at e <;> cases e
    · exact q
    · rename_i hn
      split
      · exact absurd rfl hn
      · exact q
  · cases e
    simp only [RepV] at ra rb
    exact .inr ⟨_, _, ra, rb, q⟩
  · cases e
theorem or_lt : OpR X (compareOp .Lt) (rc X.prog X.w X.K X.mg .lt) := by
  refine OpR.imp (op_lt.or op_lt_str) ?_
  rintro x y H Q ⟨Φ, Z, β, U, a, b, k, R, ra, rb, e, q⟩
  simp only [cmpop] at e
  split at e
  · cases e
    simp only [RepV] at ra rb
    exact .inl ⟨_, _, ra, rb, q⟩
  · cases e
    simp only [RepV] at ra rb
    exact .inr ⟨_, _, ra, rb, q⟩
  · cases e
theorem or_le : OpR X (compareOp .LtE) (rc X.prog X.w X.K X.mg .le) := by
  refine OpR.imp op_le ?_
  rintro x y H Q ⟨Φ, Z, β, U, a, b, k, R, ra, rb, e, q⟩
  simp only [cmpop] at e
  split at e
  · cases e
    simp only [RepV] at ra rb
    exact ⟨_, _, ra, rb, q⟩
  · cases e
theorem or_gt : OpR X (compareOp .Gt) (rc X.prog X.w X.K X.mg .gt) := by
  refine OpR.imp op_gt ?_
  rintro x y H Q ⟨Φ, Z, β, U, a, b, k, R, ra, rb, e, q⟩
  simp only [cmpop] at e
  split at e
  · cases e
    simp only [RepV] at ra rb
    exact ⟨_, _, ra, rb, q⟩
  · cases e
theorem or_ge : OpR X (compareOp .GtE) (rc X.prog X.w X.K X.mg .ge) := by
  refine OpR.imp op_ge ?_
  rintro x y H Q ⟨Φ, Z, β, U, a, b, k, R, ra, rb, e, q⟩
  simp only [cmpop] at e
  split at e
  · cases e
    simp only [RepV] at ra rb
    exact ⟨_, _, ra, rb, q⟩
  · cases e
/-- which operator of the model's -/
def cop : COp → CmpOp
  | .eq => .Eq | .ne => .NotEq | .lt => .Lt | .le => .LtE | .gt => .Gt | .ge => .GtE | .isIn => .In | .notIn => .NotIn | .is => .Is | .isNot => .IsNot
theorem or_cmp (hu : X.A.units + 65 < cLine) (op : COp) : OpR X (compareOp (cop op)) (rc X.prog X.w X.K X.mg op) := by
  cases op
  · exact or_eq (by omega)
  · exact or_ne (by omega)
  · exact or_lt
  · exact or_le
  · exact or_gt
  · exact or_ge
  · exact or_in hu
  · exact or_notIn hu
  · exact or_is
  · exact or_isNot
def bop : BOp → Operator
  | .add => .Add | .sub => .Sub | .mul => .Mult | .fdiv => .FloorDiv | .mod => .Mod | .pow => .Pow
theorem or_bin (op : BOp) (m : Bool) : OpR X (binaryOp (bop op)) (r2 X.prog X.w X.K X.mg (binop op m)) := by
  cases op
  · exact or_add m
  · exact or_sub m
  · refine OpR.imp (or_mul m) ?_
    rintro x y H Q ⟨Φ, Z, β, U, a, b, d, U', R, ra, rb, e, dn⟩
    refine ⟨Φ, Z, β, U, a, b, d, U', R, ra, rb, ?_, dn⟩
    change mulOp m a b U = _ at e
    unfold mulOp at e
    split at e
    · exact e
    · exact e
    · cases e
  · exact or_fdiv m
  · exact or_mod m
  · exact or_pow m
/-! ### truth -/
theorem or_truth : TruR X (fun x H Q => ∃ Φ Z β U a k, Rel X.prog X.w X.K X.mg Φ Z β U H ∧ RepV X.prog X.w X.K Z β a x ∧ truth U a = some k ∧ Q k H) := by
  intro pins s σ H x v Q I rx ⟨Φ, Z, β, U, a, k, R, ra, e, q⟩
  have seq : ∀ xs, asQ U a = some xs → k = !xs.isEmpty → wpAny (model X.prog X.w) X.A (truthy v) (TP X pins σ Q) X.xe s := fun xs h1 h2 => by
    obtain ⟨p, vs, rfl, sq, ql⟩ := R.seq h1 ra
    have hk : k = !vs.isEmpty := by
      rw [h2]
      have := ql.length
      cases xs <;> cases vs <;> simp_all
    rcases sq with sq | sq
    · exact tru_ok pins s σ H _ v Q I rx ⟨k, .inl ⟨vs, sq, hk⟩, q⟩
    · exact tru_ok pins s σ H _ v Q I rx ⟨k, .inr (.inl ⟨vs, sq, hk⟩), q⟩
  have dic : ∀ kvs, asD U a = some (0, kvs) → k = !kvs.isEmpty → wpAny (model X.prog X.w) X.A (truthy v) (TP X pins σ Q) X.xe s := fun kvs h1 h2 => by
    obtain ⟨p, rfl, h⟩ := R.dict h1 ra
    cases rx
    rcases h with ⟨_, l, e, q1⟩ | ⟨h0, l, e, nd, q1⟩
    · refine d_truth I (.inl e) fun s' I' => ⟨H, I', ?_⟩
      have : kvs.isEmpty = l.isEmpty := by
        have := repK_len q1
        cases kvs <;> cases l <;> simp_all
      rw [← this, ← h2]
      exact q
    · cases h0
  cases a <;> simp only [truth, reduceCtorEq, Option.some.injEq] at e
  · simp only [RepV] at ra
    subst ra
    exact tru_ok pins s σ H _ v Q I rx ⟨k, e.symm, q⟩
  · simp only [RepV] at ra
    subst ra
    exact tru_ok pins s σ H _ v Q I rx ⟨k, e.symm, q⟩
  · simp only [RepV] at ra
    subst ra
    refine tru_ok pins s σ H _ v Q I rx ⟨k, ?_, q⟩
    show k = (_ != 0)
    rw [← e]
    simp only [bne, ne_eq, decide_not]
    rfl
  · split at e
    · rename_i z hz
      simp only [Option.some.injEq] at e
      simp only [RepV] at ra
      subst ra
      refine tru_ok pins s σ H _ v Q I rx ⟨k, ⟨?_, ?_⟩, q⟩
      · rw [str_len, ← SZ_eq]
        exact hz
      · rw [← e, str_len]
        cases z with
        | nil => rfl
        | cons c r => simp [bne, List.isEmpty]; omega
    · cases e
  · exact seq _ rfl e.symm
  · exact seq _ rfl e.symm
  · split at e
    · rename_i h0
      subst h0
      simp only [Option.some.injEq] at e
      exact dic _ rfl e.symm
    · cases e
  · split at e
    · rename_i hu
      simp only [Option.some.injEq] at e
      exact seq _ (by simp [asQ, asL, hu]) e.symm
    · rename_i t kvs hu
      split at e
      · rename_i h0
        subst h0
        simp only [Option.some.injEq] at e
        exact dic _ (by simp [asD, hu]) e.symm
      · cases e
    · cases e
end
end VI

/-! VIb6: items, slices, stores, fields, by values. -/
namespace VI
open PySem PySem.Spec PyProof.Rows L2
section
variable {X : Cx}
theorem asQ_asD {U : Store} {d : D} {t : Nat} {kvs : List (D × D)} (h : asD U d = some (t, kvs)) : asQ U d = none := by
  cases d <;> simp_all [asD, asQ, asL]
  split at h <;> simp_all
theorem atI_len {α : Type} {xs : List α} {i : Int} {v : α} (h : VI.atI xs i = some v) : ∃ j, ixN xs.length i = some j ∧ xs[j]? = some v := by
  unfold VI.atI at h
  exact Option.bind_eq_some_iff.mp h
theorem atI_eq {α : Type} (xs : List α) (i : Int) : VI.atI xs i = L2.atI xs i := by
  unfold VI.atI L2.atI VI.ixN L2.ixN
  rfl
theorem atI_rep {P : Program} {w : World} {K : PySem.W.Frag} {Z : Hp} {β : List Addr} {xs : List D} {vs : List V} {i : Int} {d : D} (q : RepL P w K Z β xs vs) (h : VI.atI xs i = some d) : ∃ v, L2.atI vs i = some v ∧ RepV P w K Z β d v := by
  obtain ⟨j, h1, h2⟩ := atI_len h
  obtain ⟨v, e, r⟩ := q.get h2
  refine ⟨v, ?_, r⟩
  rw [← atI_eq]
  unfold VI.atI
  rw [← q.length, h1]
  exact e
theorem ix_all (hu : X.A.units + 64 < cLine) : IxR X (r2 X.prog X.w X.K X.mg index1) := by
  intro value slice pins s σ H x y v u Q I rx ry ⟨Φ, Z, β, U, a, b, d, U', R, ra, rb, e, dn⟩ hs
  unfold index1 at e
  split at e
  · rename_i z i
    split at e
    · rename_i hz
      split at e
      · rename_i c hc
        obtain ⟨rfl, rfl⟩ := ok_inj e
        simp only [RepV] at ra rb
        subst ra rb
        refine ix_seq value slice pins s σ H _ _ v u Q I rx ry (.inr (.inr ⟨_, i, c, rfl, rfl, ?_, ?_, ?_⟩)) hs
        · rw [str_len, ← SZ_eq]; exact hz
        · rw [← atI_eq]; simpa using hc
        · exact dn.str R
      · cases e
    · cases e
  · split at e
    · rename_i xs hq
      obtain ⟨p, vs, rfl, sq, q⟩ := R.seq hq ra
      split at e
      · rename_i i _
        split at e
        · rename_i d' hd
          obtain ⟨rfl, rfl⟩ := ok_inj e
          simp only [RepV] at rb
          subst rb
          obtain ⟨v', e1, r1⟩ := atI_rep q hd
          rcases sq with sq | sq
          · exact ix_seq value slice pins s σ H _ _ v u Q I rx ry (.inl ⟨p, vs, i, v', rfl, rfl, sq, e1, dn.same R r1⟩) hs
          · exact ix_seq value slice pins s σ H _ _ v u Q I rx ry (.inr (.inl ⟨p, vs, i, v', rfl, rfl, sq, e1, dn.same R r1⟩)) hs
        · cases e
      · cases e
    · split at e
      · rename_i t kvs hd
        split at e
        · rename_i hk
          split at e
          · rename_i d' hx
            obtain ⟨rfl, rfl⟩ := ok_inj e
            have ht : s.TypeIs v "dict" := by
              obtain ⟨p, rfl, h⟩ := R.dict hd ra
              cases rx
              rcases h with ⟨rfl, l, e, q1⟩ | ⟨rfl, l, e, nd, q1⟩
              · obtain ⟨_, _, vs, _, dd⟩ := dk_rd I.hok (.inl e)
                exact dd.typeIs
              · obtain ⟨_, _, dd⟩ := dn_heap R I e nd q1
                exact dd.typeIs
            exact tail_any ht PySem.F.slot_dict_getitem.lookup (vd_get hu R I hd hk ra rb rx ry hx fun z z' s' I' r' q' => ⟨z, H, I', r', dn.same R q'⟩) hs
          · cases e
        · cases e
      · cases e
/-! ### slices -/
theorem sIx_eq (n d : Nat) (o : Option Int) : VI.sIx n d o = HT.sIx n d o := by cases o <;> rfl
theorem cut_rep {P : Program} {w : World} {K : PySem.W.Frag} {Z : Hp} {β : List Addr} {xs : List D} {vs : List V} (q : RepL P w K Z β xs vs) (lo hi : Option Int) : RepL P w K Z β (cut xs lo hi) (cutV vs lo hi) := by
  unfold cut cutV
  rw [← q.length, ← sIx_eq, ← sIx_eq]
  exact (q.drop _).take _
theorem cut_all {α : Type} {xs : List α} {lo hi : Option Int} (h : HT.sIx xs.length 0 lo = 0 ∧ HT.sIx xs.length xs.length hi = xs.length) : cut xs lo hi = xs := by
  unfold cut
  rw [sIx_eq, sIx_eq, h.1, h.2]
  simp
def rSl (P : Program) (w : World) (K : PySem.W.Frag) (mg : Str → Option Value) (m : Bool) : V → Option Int → Option Int → Hp → VK → Prop := fun x lo hi H Q =>
  ∃ Φ Z β U a dl dh d U', Rel P w K mg Φ Z β U H ∧ RepV P w K Z β a x ∧ bnd? dl = some lo ∧ bnd? dh = some hi ∧ slice1 m a dl dh U = some (.ok d U') ∧ Done P w K mg Φ Z β d U' Q
theorem sl_all (m : Bool) : SlR X (rSl X.prog X.w X.K X.mg m) := by
  intro pins s σ H x v vl vu lo hi sl Q I rx hs pl pu ⟨Φ, Z, β, U, a, dl, dh, d, U', R, ra, bl, bh, e, dn⟩
  unfold slice1 at e
  simp only [bl, bh] at e
  unfold sliceB at e
  split at e
  · rename_i z
    split at e
    · rename_i hz
      obtain ⟨rfl, rfl⟩ := ok_inj e
      simp only [RepV] at ra
      subst ra
      refine sl_str pins s σ H _ v vl vu lo hi sl Q I rx hs pl pu ⟨_, rfl, by rw [str_len, ← SZ_eq]; exact hz, ?_⟩
      have : cutS ⟨z.toArray⟩ lo hi = ⟨(cut z lo hi).toArray⟩ := by
        unfold cutS cut
        simp only [sIx_eq, str_len]
      rw [this]
      exact dn.str R
    · cases e
  · rename_i xs
    obtain ⟨rfl, rfl⟩ := ok_inj e
    obtain ⟨p, vs, rfl, sq, q⟩ := R.tuple ra
    refine sl_tupA pins s σ H _ v vl vu lo hi sl Q I rx hs pl pu ⟨p, vs, rfl, sq, fun hw => ?_, fun hw p hp => ?_⟩
    · rw [← q.length] at hw
      rw [cut_all hw] at dn
      exact dn.same R ra
    · exact dn.tup R (cut_rep q lo hi) hp
  · split at e
    · rename_i xs hq
      obtain ⟨p, vs, rfl, sq, q⟩ := R.list hq ra
      exact sl_list pins s σ H _ v vl vu lo hi sl Q I rx hs pl pu ⟨p, vs, rfl, sq, fun p hp => dn.lst R e (cut_rep q lo hi) hp⟩
    · cases e
end
end VI

/-! VIc1: frames, ends, the readings of the IR; the rules node by node. -/
namespace VI
open PySem PySem.Spec PyProof.Rows L2
/-! ### frames -/
def RepS (P : Program) (w : World) (K : PySem.W.Frag) (Z : Hp) (β : List Addr) (ρ : Rho) (σ : L2.St) : Prop :=
  ρ.length = σ.length ∧ ∀ (i : Nat) (d : D), ρ[i]? = some (some d) → ∃ v, σ[i]? = some (some v) ∧ RepV P w K Z β d v
section
variable {P : Program} {w : World} {K : PySem.W.Frag} {mg : Str → Option Value} {Φ : List (Addr × HO)} {Z Z' : Hp} {β β' : List Addr} {ρ : Rho} {σ : L2.St} {U U' : Store} {H : Hp}
theorem RepS.mono (h : RepS P w K Z β ρ σ) (z : ZLe Z Z') (b : BLe β β') : RepS P w K Z' β' ρ σ :=
  ⟨h.1, fun i d e => let ⟨v, e1, r⟩ := h.2 i d e; ⟨v, e1, RepV.mono z b r⟩⟩
theorem RepS.set {i : Nat} {d : D} {v : V} (h : RepS P w K Z β ρ σ) (r : RepV P w K Z β d v) : RepS P w K Z β (ρ.set i (some d)) (σ.set i (some v)) := by
  refine ⟨by simp [h.1], fun j e he => ?_⟩
  by_cases q : i = j
  · subst q
    by_cases hl : i < ρ.length
    · rw [List.getElem?_set_self hl] at he
      cases he
      exact ⟨v, by rw [List.getElem?_set_self (by rw [← h.1]; exact hl)], r⟩
    · rw [List.getElem?_eq_none (by simpa using hl)] at he
      cases he
  · rw [List.getElem?_set_ne q] at he ⊢
    exact h.2 j e he
theorem RepS.unset {i : Nat} (h : RepS P w K Z β ρ σ) (o : Option V) : RepS P w K Z β (ρ.set i none) (σ.set i o) := by
  refine ⟨by simp [h.1], fun j e he => ?_⟩
  by_cases q : i = j
  · subst q
    by_cases hl : i < ρ.length
    · rw [List.getElem?_set_self hl] at he
      cases he
    · rw [List.getElem?_eq_none (by simpa using hl)] at he
      cases he
  · rw [List.getElem?_set_ne q] at he ⊢
    exact h.2 j e he
theorem RepS.wipe (h : RepS P w K Z β ρ σ) : ∀ vs : List Nat, RepS P w K Z β (VI.wipe ρ vs) (L2.wipe σ vs)
  | [] => h
  | v :: vs => (RepS.wipe h vs).unset none
end
/-! ### ends -/
/-- what is wanted of an exception -/
def DoneX (P : Program) (w : World) (K : PySem.W.Frag) (mg : Str → Option Value) (Φ : List (Addr × HO)) (Z : Hp) (β : List Addr) (x : Ex) (U' : Store) (E : XK) : Prop :=
  ∀ (Z' : Hp) (β' : List Addr) (H' : Hp) (C dx : Addr) (v : V), ZLe Z Z' → BLe β β' → Rel P w K mg Φ Z' β' U' H' → mg (Str.ofString x.c) = some (.ref C) → RepV P w K Z' β' x.p v → H' dx = some (exd dx [("place", v)]) → E (.ref C) (some dx) H'
theorem DoneX.mono {P : Program} {w : World} {K : PySem.W.Frag} {mg : Str → Option Value} {Φ : List (Addr × HO)} {Z Z' : Hp} {β β' : List Addr} {x : Ex} {U' : Store} {E : XK} (h : DoneX P w K mg Φ Z β x U' E) (z : ZLe Z Z') (b : BLe β β') : DoneX P w K mg Φ Z' β' x U' E :=
  fun Z2 β2 H2 C dx v z2 b2 => h Z2 β2 H2 C dx v (z.trans z2) (b.trans b2)
def DoneB (P : Program) (w : World) (K : PySem.W.Frag) (mg : Str → Option Value) (Φ : List (Addr × HO)) (Z : Hp) (β : List Addr) (U' : Store) (Q : Hp → Prop) : Prop := ∀ (Z' : Hp) (β' : List Addr) (H' : Hp), ZLe Z Z' → BLe β β' → Rel P w K mg Φ Z' β' U' H' → Q H'
def DoneL (P : Program) (w : World) (K : PySem.W.Frag) (mg : Str → Option Value) (Φ : List (Addr × HO)) (Z : Hp) (β : List Addr) (ds : List D) (U' : Store) (Q : List V → Hp → Prop) : Prop := ∀ (Z' : Hp) (β' : List Addr) (H' : Hp) (vs : List V), ZLe Z Z' → BLe β β' → Rel P w K mg Φ Z' β' U' H' → RepL P w K Z' β' ds vs → Q vs H'
/-- a result's wish -/
def Out {α : Type} (P : Program) (w : World) (K : PySem.W.Frag) (mg : Str → Option Value) (W : WX) (Φ : List (Addr × HO)) (Z : Hp) (β : List Addr) (σ : L2.St) (ok : α → Store → Prop) (r : VI.R α) : Prop :=
  match r with
  | .ok d U' => ok d U'
  | .ex x U' => DoneX P w K mg Φ Z β x U' fun cls d H => W cls d σ H
section
variable (P : Program) (w : World) (K : PySem.W.Frag) (mg : Str → Option Value) (C : Cal) (W : WX)
def tE (e : IE) : TE := fun σ H Q => ∃ Φ Z β ρ U r, RepS P w K Z β ρ σ ∧ Rel P w K mg Φ Z β U H ∧ ev C e ρ U = some r ∧ Out P w K mg W Φ Z β σ (fun d U' => Done P w K mg Φ Z β d U' Q) r
def tT (e : IE) : TT := fun σ H Q => ∃ Φ Z β ρ U r, RepS P w K Z β ρ σ ∧ Rel P w K mg Φ Z β U H ∧ evB C e ρ U = some r ∧ Out P w K mg W Φ Z β σ (fun k U' => DoneB P w K mg Φ Z β U' (Q k)) r
def tA (es : IEs) : TA := fun σ H Q => ∃ Φ Z β ρ U r, RepS P w K Z β ρ σ ∧ Rel P w K mg Φ Z β U H ∧ evs C es ρ U = some r ∧ Out P w K mg W Φ Z β σ (fun ds U' => DoneL P w K mg Φ Z β ds U' Q) r
end
section
variable {P : Program} {w : World} {K : PySem.W.Frag} {mg : Str → Option Value} {C : Cal} {W : WX} {Φ : List (Addr × HO)} {Z : Hp} {β : List Addr} {ρ : Rho} {σ : L2.St} {U : Store} {H : Hp} {Q : VK}
theorem tE_bnd {α : Type} {e : IE} {f : D → M α} {r : VI.R α} (S : RepS P w K Z β ρ σ) (R : Rel P w K mg Φ Z β U H) (h : bnd (ev C e ρ U) f = some r) (hx : ∀ x U', r = .ex x U' → DoneX P w K mg Φ Z β x U' fun cls d H => W cls d σ H)
    (k : ∀ Z' β' H' d v U', ZLe Z Z' → BLe β β' → Rel P w K mg Φ Z' β' U' H' → RepV P w K Z' β' d v → RepS P w K Z' β' ρ σ → f d U' = some r → Q v H') : tE P w K mg C W e σ H Q := by
  cases q : ev C e ρ U with
  | none =>
    rw [q] at h
    cases h
  | some r1 =>
    rw [q] at h
    refine ⟨Φ, Z, β, ρ, U, r1, S, R, q, ?_⟩
    cases r1 with
    | ok d U' => exact fun Z' β' H' v z b R' r' => k Z' β' H' d v U' z b R' r' (S.mono z b) h
    | ex x U' => exact hx x U' (by rw [bnd_ex] at h; exact (Option.some.inj h).symm)
theorem tT_bnd {α : Type} {e : IE} {f : Bool → M α} {r : VI.R α} {Q : Bool → Hp → Prop} (S : RepS P w K Z β ρ σ) (R : Rel P w K mg Φ Z β U H) (h : bnd (evB C e ρ U) f = some r) (hx : ∀ x U', r = .ex x U' → DoneX P w K mg Φ Z β x U' fun cls d H => W cls d σ H)
    (k : ∀ Z' β' H' d U', ZLe Z Z' → BLe β β' → Rel P w K mg Φ Z' β' U' H' → RepS P w K Z' β' ρ σ → f d U' = some r → Q d H') : tT P w K mg C W e σ H Q := by
  cases q : evB C e ρ U with
  | none =>
    rw [q] at h
    cases h
  | some r1 =>
    rw [q] at h
    refine ⟨Φ, Z, β, ρ, U, r1, S, R, q, ?_⟩
    cases r1 with
    | ok d U' => exact fun Z' β' H' z b R' => k Z' β' H' d U' z b R' (S.mono z b) h
    | ex x U' => exact hx x U' (by rw [bnd_ex] at h; exact (Option.some.inj h).symm)
theorem tA_bnd {α : Type} {e : IEs} {f : List D → M α} {r : VI.R α} {Q : List V → Hp → Prop} (S : RepS P w K Z β ρ σ) (R : Rel P w K mg Φ Z β U H) (h : bnd (evs C e ρ U) f = some r) (hx : ∀ x U', r = .ex x U' → DoneX P w K mg Φ Z β x U' fun cls d H => W cls d σ H)
    (k : ∀ Z' β' H' d v U', ZLe Z Z' → BLe β β' → Rel P w K mg Φ Z' β' U' H' → RepL P w K Z' β' d v → RepS P w K Z' β' ρ σ → f d U' = some r → Q v H') : tA P w K mg C W e σ H Q := by
  cases q : evs C e ρ U with
  | none =>
    rw [q] at h
    cases h
  | some r1 =>
    rw [q] at h
    refine ⟨Φ, Z, β, ρ, U, r1, S, R, q, ?_⟩
    cases r1 with
    | ok d U' => exact fun Z' β' H' v z b R' r' => k Z' β' H' d v U' z b R' r' (S.mono z b) h
    | ex x U' => exact hx x U' (by rw [bnd_ex] at h; exact (Option.some.inj h).symm)
/-- the wish of the rest, later -/
theorem hx_mono {α : Type} {r : VI.R α} {Z' : Hp} {β' : List Addr} (hx : ∀ x U', r = .ex x U' → DoneX P w K mg Φ Z β x U' fun cls d H => W cls d σ H) (z : ZLe Z Z') (b : BLe β β') : ∀ x U', r = .ex x U' → DoneX P w K mg Φ Z' β' x U' fun cls d H => W cls d σ H :=
  fun x U' e => (hx x U' e).mono z b
theorem Out.wish {α : Type} {ok : α → Store → Prop} {r : VI.R α} (o : Out P w K mg W Φ Z β σ ok r) : ∀ x U', r = .ex x U' → DoneX P w K mg Φ Z β x U' fun cls d H => W cls d σ H := fun x U' e => by
  subst e
  exact o
theorem DoneB.mono {Z' : Hp} {β' : List Addr} {U' : Store} {Q : Hp → Prop} (h : DoneB P w K mg Φ Z β U' Q) (z : ZLe Z Z') (b : BLe β β') : DoneB P w K mg Φ Z' β' U' Q := fun Z2 β2 H2 z2 b2 => h Z2 β2 H2 (z.trans z2) (b.trans b2)
theorem DoneL.mono {Z' : Hp} {β' : List Addr} {ds : List D} {U' : Store} {Q : List V → Hp → Prop} (h : DoneL P w K mg Φ Z β ds U' Q) (z : ZLe Z Z') (b : BLe β β') : DoneL P w K mg Φ Z' β' ds U' Q := fun Z2 β2 H2 vs z2 b2 => h Z2 β2 H2 vs (z.trans z2) (b.trans b2)
theorem Out.mono {α : Type} {ok ok' : α → Store → Prop} {r : VI.R α} {Z' : Hp} {β' : List Addr} (o : Out P w K mg W Φ Z β σ ok r) (z : ZLe Z Z') (b : BLe β β') (h : ∀ d U', ok d U' → ok' d U') : Out P w K mg W Φ Z' β' σ ok' r := by
  cases r with
  | ok d U' => exact h d U' o
  | ex x U' =>
    have o : DoneX P w K mg Φ Z β x U' fun cls d H => W cls d σ H := o
    exact o.mono z b
theorem Out.monoE {r : VI.R D} {Z' : Hp} {β' : List Addr} (o : Out P w K mg W Φ Z β σ (fun d U' => Done P w K mg Φ Z β d U' Q) r) (z : ZLe Z Z') (b : BLe β β') : Out P w K mg W Φ Z' β' σ (fun d U' => Done P w K mg Φ Z' β' d U' Q) r := o.mono z b fun d U' h => Done.mono h z b
theorem Out.monoT {Q : Bool → Hp → Prop} {r : VI.R Bool} {Z' : Hp} {β' : List Addr} (o : Out P w K mg W Φ Z β σ (fun k U' => DoneB P w K mg Φ Z β U' (Q k)) r) (z : ZLe Z Z') (b : BLe β β') : Out P w K mg W Φ Z' β' σ (fun k U' => DoneB P w K mg Φ Z' β' U' (Q k)) r := o.mono z b fun d U' h => DoneB.mono h z b
theorem Out.monoL {Q : List V → Hp → Prop} {r : VI.R (List D)} {Z' : Hp} {β' : List Addr} (o : Out P w K mg W Φ Z β σ (fun ds U' => DoneL P w K mg Φ Z β ds U' Q) r) (z : ZLe Z Z') (b : BLe β β') : Out P w K mg W Φ Z' β' σ (fun ds U' => DoneL P w K mg Φ Z' β' ds U' Q) r := o.mono z b fun d U' h => DoneL.mono h z b
theorem Out.ok {α : Type} {ok : α → Store → Prop} {d : α} {U' : Store} (o : Out P w K mg W Φ Z β σ ok (.ok d U')) : ok d U' := o
/-- the same, by another reading -/
theorem tE_as {a b : IE} (h : ∀ ρ U, ev C a ρ U = ev C b ρ U) : tE P w K mg C W a = tE P w K mg C W b := by
  unfold tE
  simp only [h]
theorem _root_.L2.PE.imp {X : Cx} {e : Expr} {t t' : TE} (h : PE X e t) (i : ∀ σ H Q, t' σ H Q → t σ H Q) : PE X e t' := ⟨fun pins s σ H Q I q => h.run pins s σ H Q I (i σ H Q q)⟩
theorem _root_.L2.PT.imp {X : Cx} {e : Expr} {t t' : TT} (h : PT X e t) (i : ∀ σ H Q, t' σ H Q → t σ H Q) : PT X e t' := ⟨fun pins s σ H Q I q => h.run pins s σ H Q I (i σ H Q q)⟩
end
/-! ### tame expressions -/
def tame : Expr → Bool
  | .Starred _ _ => false
  | .Set _ _ _ => false
  | .Slice _ _ _ _ => false
  | _ => true
theorem star_tame {e : Expr} (h : tame e = true) (es : List Expr) (env : Env) : starEach (e :: es) env = (false, eval e env) :: starEach es env := by
  cases e <;> first | rfl | cases h
theorem marks_tame {e : Expr} (h : tame e = true) (op : CmpOp) : behindInMarks op e = false := by
  cases e <;> first | rfl | cases h
theorem ix_tame {e : Expr} (h : tame e = true) : PlainIx e := fun o i => by
  cases e <;> first | rfl | cases h
theorem fold_tame {e : Expr} (h : tame e = true) (env : Env) : ∀ x, foldedSetIterable e env x = pure x := fun x => by
  cases e <;> first | rfl | cases h
theorem stars_tame : ∀ {es : List Expr}, es.all tame = true → ∀ (pos : Pos) (env : Env), (backTo pos (starEach es env)).any (·.1) = false
  | [], _, _, _ => rfl
  | e :: r, h, pos, env => by
    simp only [List.all_cons, Bool.and_eq_true] at h
    rw [star_tame h.1]
    exact stars_tame h.2 pos env
def noComp : Expr → Bool
  | .ListComp _ _ _ _ => false
  | .SetComp _ _ _ _ => false
  | .DictComp _ _ _ _ _ => false
  | _ => true
theorem swaps_no {e : Expr} (h : noComp e = true) (t : Option Expr) (l : Nat) (env : Env) : swapsWith e t l env = pure false := by
  cases e <;> first | rfl | cases h
def noSup : Expr → Bool
  | .Call (.Name id _) [] [] _ => id != "super"
  | _ => true
theorem attr_noSup {o : Expr} (h : noSup o = true) (f : Str) (env : Env) (whole : Sem Value) : attributeBase o f env whole = whole := by
  unfold attributeBase
  split
  · rename_i id _ _
    have : (id != "super") = true := h
    rw [this]
    simp
  · rfl
end VI

/-! VIc2: the rules node by node: expressions. -/
namespace VI
open PySem PySem.Spec PyProof.Rows L2
theorem addOp_ok {m : Bool} {a b : D} {U V : Store} {x : Ex} (h : addOp m a b U = some (.ex x V)) : False := by
  unfold addOp mkL at h
  repeat' split at h
  all_goals cases h
theorem binop_ok {op : BOp} {m : Bool} {a b : D} {U V : Store} {x : Ex} (h : binop op m a b U = some (.ex x V)) : False := by
  cases op <;> simp only [binop] at h
  · exact addOp_ok h
  · split at h <;> cases h
  · unfold mulOp at h
    repeat' split at h
    all_goals cases h
  · repeat' split at h
    all_goals cases h
  · repeat' split at h
    all_goals cases h
  · repeat' split at h
    all_goals cases h
theorem mkL_ok {m : Bool} {xs : List D} {U V : Store} {x : Ex} (h : mkL m xs U = some (.ex x V)) : False := by
  unfold mkL at h
  split at h <;> cases h
theorem index1_ok {a b : D} {U V : Store} {x : Ex} (h : index1 a b U = some (.ex x V)) : False := by
  unfold index1 at h
  repeat' split at h
  all_goals cases h
theorem slice1_ok {m : Bool} {a b c : D} {U V : Store} {x : Ex} (h : slice1 m a b c U = some (.ex x V)) : False := by
  unfold slice1 sliceB mkL at h
  repeat' split at h
  all_goals cases h
/-- how an operation that raises nothing ends -/
theorem must {α : Type} {r : VI.R α} {o : Option (VI.R α)} (h : o = some r) (n : ∀ x V, o = some (.ex x V) → False) : ∃ d U', r = .ok d U' := by
  cases r with
  | ok d U' => exact ⟨d, U', rfl⟩
  | ex x V => exact (n x V h).elim
section
variable {X : Cx} {C : Cal} {W : WX} {e e1 e2 e3 : Expr} {a b c : IE} {pos : Pos}
abbrev xE (X : Cx) (C : Cal) (W : WX) (e : IE) : TE := tE X.prog X.w X.K X.mg C W e
abbrev xT (X : Cx) (C : Cal) (W : WX) (e : IE) : TT := tT X.prog X.w X.K X.mg C W e
abbrev xA (X : Cx) (C : Cal) (W : WX) (e : IEs) : TA := tA X.prog X.w X.K X.mg C W e
theorem n_var {i : Nat} {x : Str} (hN : X.N[i]? = some x) (hv : Vis X.env.scope x) (hd : (x == ("__debug__" : Str)) = false) (hcd : (x == ("__classdict__" : Str)) = false) : PE X (.Name x pos) (xE X C W (.var i)) := by
  refine (pe_var hN hv hd hcd).imp fun σ H Q ⟨Φ, Z, β, ρ, U, r, S, R, h, o⟩ => ?_
  rw [ev] at h
  split at h
  · rename_i d hd
    cases h
    obtain ⟨v, e1, r1⟩ := S.2 i d hd
    exact ⟨v, e1, Done.same o R r1⟩
  · cases h
theorem n_cst {d : D} {v : V} (h : PE X e (tC v)) (r : ∀ Z β, RepV X.prog X.w X.K Z β d v) : PE X e (xE X C W (.cst d)) := by
  refine h.imp fun σ H Q ⟨Φ, Z, β, ρ, U, rr, S, R, h, o⟩ => ?_
  rw [ev] at h
  cases h
  exact Done.same o R (r Z β)
theorem n_glo {d : D} {v : V} {x : String} (h : PE X e (tC v)) (r : ∀ Z β, RepV X.prog X.w X.K Z β d v) : PE X e (xE X C W (.glo x d)) := by
  refine h.imp fun σ H Q ⟨Φ, Z, β, ρ, U, rr, S, R, h, o⟩ => ?_
  rw [ev] at h
  cases h
  exact Done.same o R (r Z β)
theorem n_bin (op : BOp) (m : Bool) (ha : PE X e1 (xE X C W a)) (hb : PE X e2 (xE X C W b)) : PE X (.BinOp e1 (bop op) e2 pos) (xE X C W (.bin op m a b)) := by
  refine (pe_op (or_bin op m) ha hb).imp fun σ H Q ⟨Φ, Z, β, ρ, U, r, S, R, h, o⟩ => ?_
  rw [ev] at h
  refine tE_bnd S R h o.wish fun Z1 β1 H1 d v U1 z1 b1 R1 r1 S1 h1 => ?_
  refine tE_bnd S1 R1 h1 (o.monoE z1 b1).wish fun Z2 β2 H2 d2 v2 U2 z2 b2 R2 r2 S2 h2 => ?_
  obtain ⟨d3, U3, rfl⟩ := must h2 fun x V => binop_ok
  exact ⟨Φ, Z2, β2, U2, d, d2, d3, U3, R2, RepV.mono z2 b2 r1, r2, h2, ((o.monoE z1 b1).monoE z2 b2)⟩
theorem n_neg (ha : PE X e1 (xE X C W a)) : PE X (.UnaryOp .USub e1 pos) (xE X C W (.neg a)) := by
  refine (pe_un un_neg ha).imp fun σ H Q ⟨Φ, Z, β, ρ, U, r, S, R, h, o⟩ => ?_
  rw [ev] at h
  refine tE_bnd S R h o.wish fun Z1 β1 H1 d v U1 z1 b1 R1 r1 S1 h1 => ?_
  split at h1
  · rename_i i
    cases h1
    simp only [RepV] at r1
    exact ⟨i, r1, Done.int ((o.monoE z1 b1)) R1⟩
  · cases h1
theorem n_cmp (hu : X.A.units + 65 < cLine) (op : COp) (ht : tame e2 = true) (ha : PE X e1 (xE X C W a)) (hb : PE X e2 (xE X C W b)) : PE X (.Compare e1 [cop op] [e2] pos) (xE X C W (.cmp op a b)) := by
  refine (pe_cmpR (or_cmp hu op) ha hb (marks_tame ht _)).imp fun σ H Q ⟨Φ, Z, β, ρ, U, r, S, R, h, o⟩ => ?_
  rw [ev] at h
  refine tE_bnd S R h o.wish fun Z1 β1 H1 d v U1 z1 b1 R1 r1 S1 h1 => ?_
  refine tE_bnd S1 R1 h1 (o.monoE z1 b1).wish fun Z2 β2 H2 d2 v2 U2 z2 b2 R2 r2 S2 h2 => ?_
  split at h2
  · rename_i k hk
    cases h2
    exact ⟨Φ, Z2, β2, U2, d, d2, k, R2, RepV.mono z2 b2 r1, r2, hk, Done.bl ((o.monoE z1 b1).monoE z2 b2) R2⟩
  · cases h2
theorem n_test (hd : ∀ ρ U, evB C a ρ U = bnd (ev C a ρ U) fun x U1 => tru x U1) (ht : ∀ whole, PySem.isTrue e X.env whole = (do let v ← whole; standAt e.pos; holding [v] (truthy v)))
    (ha : PE X e (xE X C W a)) : PT X e (xT X C W a) := by
  refine ⟨fun pins s σ H Q I ⟨Φ, Z, β, ρ, U, r, S, R, h, o⟩ => ?_⟩
  rw [hd] at h
  refine isTrue_plain (L2.thn (ha.run pins s σ H (fun x H' => ∃ Z β U a k, Rel X.prog X.w X.K X.mg Φ Z β U H' ∧ RepV X.prog X.w X.K Z β a x ∧ truth U a = some k ∧ Q k H') I ?_) fun v s1 ⟨x, H1, I1, r1, Z1, β1, U1, a1, k, R1, p1, t1, q1⟩ => or_truth pins s1 σ H1 x v Q I1 r1 ⟨Φ, Z1, β1, U1, a1, k, R1, p1, t1, q1⟩) (ht _)
  refine tE_bnd S R h o.wish fun Z1 β1 H1 d v U1 z1 b1 R1 r1 S1 h1 => ?_
  unfold tru at h1
  split at h1
  · rename_i k hk
    cases h1
    exact ⟨Z1, β1, U1, d, k, R1, r1, hk, o.ok Z1 β1 H1 z1 b1 R1⟩
  · cases h1
/-- a comparison as a test -/
theorem n_cmpT (hu : X.A.units + 65 < cLine) (op : COp) (ht : tame e2 = true) (ha : PE X e1 (xE X C W a)) (hb : PE X e2 (xE X C W b)) : PT X (.Compare e1 [cop op] [e2] pos) (xT X C W (.cmp op a b)) := by
  refine (pt_cmpR (or_cmp hu op) ha hb (marks_tame ht _)).imp fun σ H Q ⟨Φ, Z, β, ρ, U, r, S, R, h, o⟩ => ?_
  have h : (bnd (ev C (.cmp op a b) ρ U) fun x U1 => tru x U1) = some r := by
    simpa only [evB] using h
  rw [ev] at h
  have e : ∀ (o1 : Option (VI.R D)) (f : D → M D) (g : D → M Bool), bnd (bnd o1 f) g = bnd o1 fun x U1 => bnd (f x U1) g := by
    intro o1 f g
    cases o1 with
    | none => rfl
    | some r => cases r <;> rfl
  rw [e] at h
  refine tE_bnd S R h o.wish fun Z1 β1 H1 d v U1 z1 b1 R1 r1 S1 h1 => ?_
  rw [e] at h1
  refine tE_bnd S1 R1 h1 (o.monoT z1 b1).wish fun Z2 β2 H2 d2 v2 U2 z2 b2 R2 r2 S2 h2 => ?_
  split at h2
  · rename_i k hk
    simp only [bnd_ok, tru, truth] at h2
    cases h2
    exact ⟨Φ, Z2, β2, U2, d, d2, k, R2, RepV.mono z2 b2 r1, r2, hk, k, rfl, ((o.monoT z1 b1).monoT z2 b2).ok Z2 β2 H2 (ZLe.refl _) (BLe.refl _) R2⟩
  · cases h2
theorem marks2_tame {op op' : CmpOp} (ht : tame e3 = true) : lastMarks [op, op'] [e2, e3] = false := by
  unfold lastMarks
  unfold lastMarks
  exact marks_tame ht _
theorem n_cmp2 (hu : X.A.units + 65 < cLine) (op op' : COp) (ht : tame e3 = true) (ha : PE X e1 (xE X C W a)) (hb : PE X e2 (xE X C W b)) (hc : PE X e3 (xE X C W c)) : PE X (.Compare e1 [cop op, cop op'] [e2, e3] pos) (xE X C W (.cmp2 op op' a b c)) := by
  refine (pe_chain (or_cmp hu op) (or_cmp hu op') ha hb hc (marks2_tame ht)).imp fun σ H Q ⟨Φ, Z, β, ρ, U, r, S, R, h, o⟩ => ?_
  rw [ev] at h
  refine tE_bnd S R h o.wish fun Z1 β1 H1 d v U1 z1 b1 R1 r1 S1 h1 => ?_
  refine tE_bnd S1 R1 h1 (o.monoE z1 b1).wish fun Z2 β2 H2 d2 v2 U2 z2 b2 R2 r2 S2 h2 => ?_
  split at h2
  · rename_i k hk
    refine ⟨Φ, Z2, β2, U2, d, d2, k, R2, RepV.mono z2 b2 r1, r2, hk, k, rfl, ?_⟩
    cases k with
    | false =>
      rw [if_neg Bool.false_ne_true] at h2 ⊢
      cases h2
      exact Done.bl ((o.monoE z1 b1).monoE z2 b2) R2
    | true =>
      rw [if_pos rfl] at h2 ⊢
      refine tE_bnd S2 R2 h2 ((o.monoE z1 b1).monoE z2 b2).wish fun Z3 β3 H3 d3 v3 U3 z3 b3 R3 r3 S3 h3 => ?_
      split at h3
      · rename_i j hj
        cases h3
        exact ⟨Φ, Z3, β3, U3, d2, d3, j, R3, RepV.mono z3 b3 r2, r3, hj, Done.bl (((o.monoE z1 b1).monoE z2 b2).monoE z3 b3) R3⟩
      · cases h3
  · cases h2
theorem n_cmp2T (hu : X.A.units + 65 < cLine) (op op' : COp) (ht : tame e3 = true) (ha : PE X e1 (xE X C W a)) (hb : PE X e2 (xE X C W b)) (hc : PE X e3 (xE X C W c)) : PT X (.Compare e1 [cop op, cop op'] [e2, e3] pos) (xT X C W (.cmp2 op op' a b c)) := by
  refine (pt_chain (or_cmp hu op) (or_cmp hu op') ha hb hc (marks2_tame ht)).imp fun σ H Q ⟨Φ, Z, β, ρ, U, r, S, R, h, o⟩ => ?_
  have h : (bnd (ev C (.cmp2 op op' a b c) ρ U) fun x U1 => tru x U1) = some r := by
    simpa only [evB] using h
  rw [ev] at h
  have e : ∀ (o1 : Option (VI.R D)) (f : D → M D) (g : D → M Bool), bnd (bnd o1 f) g = bnd o1 fun x U1 => bnd (f x U1) g := by
    intro o1 f g
    cases o1 with
    | none => rfl
    | some r => cases r <;> rfl
  rw [e] at h
  refine tE_bnd S R h o.wish fun Z1 β1 H1 d v U1 z1 b1 R1 r1 S1 h1 => ?_
  rw [e] at h1
  refine tE_bnd S1 R1 h1 (o.monoT z1 b1).wish fun Z2 β2 H2 d2 v2 U2 z2 b2 R2 r2 S2 h2 => ?_
  split at h2
  · rename_i k hk
    refine ⟨Φ, Z2, β2, U2, d, d2, k, R2, RepV.mono z2 b2 r1, r2, hk, k, rfl, ?_⟩
    cases k with
    | false =>
      rw [if_neg Bool.false_ne_true] at h2 ⊢
      simp only [bnd_ok, tru, truth] at h2
      cases h2
      exact ⟨false, rfl, ((o.monoT z1 b1).monoT z2 b2).ok Z2 β2 H2 (ZLe.refl _) (BLe.refl _) R2⟩
    | true =>
      rw [if_pos rfl] at h2 ⊢
      rw [e] at h2
      refine tE_bnd S2 R2 h2 ((o.monoT z1 b1).monoT z2 b2).wish fun Z3 β3 H3 d3 v3 U3 z3 b3 R3 r3 S3 h3 => ?_
      split at h3
      · rename_i j hj
        simp only [bnd_ok, tru, truth] at h3
        cases h3
        exact ⟨Φ, Z3, β3, U3, d2, d3, j, R3, RepV.mono z3 b3 r2, r3, hj, j, rfl, (((o.monoT z1 b1).monoT z2 b2).monoT z3 b3).ok Z3 β3 H3 (ZLe.refl _) (BLe.refl _) R3⟩
      · cases h3
  · cases h2
/-! ### and, or, not; a if t else b -/
theorem n_and {es : List Expr} (ha : PE X e1 (xE X C W a)) (hb : PE X (.BoolOp .And (e2 :: es) pos) (xE X C W b)) : PE X (.BoolOp .And (e1 :: e2 :: es) pos) (xE X C W (.andE a b)) := by
  refine (pe_and ha hb).imp fun σ H Q ⟨Φ, Z, β, ρ, U, r, S, R, h, o⟩ => ?_
  rw [ev] at h
  refine tE_bnd S R h o.wish fun Z1 β1 H1 d v U1 z1 b1 R1 r1 S1 h1 => ?_
  split at h1
  · rename_i k
    simp only [RepV] at r1
    refine ⟨k, r1, ?_⟩
    cases k with
    | true => exact ⟨Φ, Z1, β1, ρ, U1, r, S1, R1, by simpa using h1, o.monoE z1 b1⟩
    | false =>
      simp only [Bool.false_eq_true, if_false] at h1 ⊢
      cases h1
      exact Done.bl (o.monoE z1 b1) R1
  · cases h1
theorem n_or {es : List Expr} (ha : PE X e1 (xE X C W a)) (hb : PE X (.BoolOp .Or (e2 :: es) pos) (xE X C W b)) : PE X (.BoolOp .Or (e1 :: e2 :: es) pos) (xE X C W (.orE a b)) := by
  refine (pe_or ha hb).imp fun σ H Q ⟨Φ, Z, β, ρ, U, r, S, R, h, o⟩ => ?_
  rw [ev] at h
  refine tE_bnd S R h o.wish fun Z1 β1 H1 d v U1 z1 b1 R1 r1 S1 h1 => ?_
  split at h1
  · rename_i k
    simp only [RepV] at r1
    refine ⟨k, r1, ?_⟩
    cases k with
    | false => exact ⟨Φ, Z1, β1, ρ, U1, r, S1, R1, by simpa using h1, o.monoE z1 b1⟩
    | true =>
      simp only [if_true] at h1 ⊢
      cases h1
      exact Done.bl (o.monoE z1 b1) R1
  · cases h1
theorem n_not (ha : PE X e1 (xE X C W a)) : PE X (.UnaryOp .Not e1 pos) (xE X C W (.notE a)) := by
  refine (pe_not ha).imp fun σ H Q ⟨Φ, Z, β, ρ, U, r, S, R, h, o⟩ => ?_
  rw [ev] at h
  refine tE_bnd S R h o.wish fun Z1 β1 H1 d v U1 z1 b1 R1 r1 S1 h1 => ?_
  split at h1
  · rename_i k
    simp only [RepV] at r1
    cases h1
    exact ⟨k, r1, Done.bl (o.monoE z1 b1) R1⟩
  · cases h1
/-- a test of and, or is one whatever its whole is -/
theorem pw_of {op : PySem.BoolOp} {es : List Expr} {t : TT} (h : PT X (.BoolOp op es pos) t) : PW X (.BoolOp op es pos) t := by
  refine ⟨fun whole pins s σ H Q I q => ?_⟩
  have e : PySem.isTrue (.BoolOp op es pos) X.env whole = PySem.isTrue (.BoolOp op es pos) X.env (eval (.BoolOp op es pos) X.env) := by
    simp only [PySem.isTrue]
  rw [e]
  exact h.run pins s σ H Q I q
theorem n_andT {es : List Expr} (ha : PT X e1 (xT X C W a)) (hb : PW X (.BoolOp .And (e2 :: es) pos) (xT X C W b)) : PT X (.BoolOp .And (e1 :: e2 :: es) pos) (xT X C W (.andE a b)) := by
  refine (pw_and ha hb).pt.imp fun σ H Q ⟨Φ, Z, β, ρ, U, r, S, R, h, o⟩ => ?_
  rw [evB] at h
  refine tT_bnd S R h o.wish fun Z1 β1 H1 k U1 z1 b1 R1 S1 h1 => ?_
  cases k with
  | true =>
    simp only [if_true] at h1 ⊢
    exact ⟨Φ, Z1, β1, ρ, U1, r, S1, R1, h1, o.monoT z1 b1⟩
  | false =>
    simp only [Bool.false_eq_true, if_false] at h1 ⊢
    cases h1
    exact (o.monoT z1 b1).ok Z1 β1 H1 (ZLe.refl _) (BLe.refl _) R1
theorem n_orT {es : List Expr} (ha : PT X e1 (xT X C W a)) (hb : PW X (.BoolOp .Or (e2 :: es) pos) (xT X C W b)) : PT X (.BoolOp .Or (e1 :: e2 :: es) pos) (xT X C W (.orE a b)) := by
  refine (pw_or ha hb).pt.imp fun σ H Q ⟨Φ, Z, β, ρ, U, r, S, R, h, o⟩ => ?_
  rw [evB] at h
  refine tT_bnd S R h o.wish fun Z1 β1 H1 k U1 z1 b1 R1 S1 h1 => ?_
  cases k with
  | false =>
    simp only [Bool.false_eq_true, if_false] at h1 ⊢
    exact ⟨Φ, Z1, β1, ρ, U1, r, S1, R1, h1, o.monoT z1 b1⟩
  | true =>
    simp only [if_true] at h1 ⊢
    cases h1
    exact (o.monoT z1 b1).ok Z1 β1 H1 (ZLe.refl _) (BLe.refl _) R1
theorem n_notT (ha : PT X e1 (xT X C W a)) : PT X (.UnaryOp .Not e1 pos) (xT X C W (.notE a)) := by
  refine (pt_not ha).imp fun σ H Q ⟨Φ, Z, β, ρ, U, r, S, R, h, o⟩ => ?_
  rw [evB] at h
  refine tT_bnd S R h o.wish fun Z1 β1 H1 k U1 z1 b1 R1 S1 h1 => ?_
  cases h1
  exact (o.monoT z1 b1).ok Z1 β1 H1 (ZLe.refl _) (BLe.refl _) R1
theorem n_ite (ht : PT X e1 (xT X C W a)) (ha : PE X e2 (xE X C W b)) (hb : PE X e3 (xE X C W c)) : PE X (.IfExp e1 e2 e3 pos) (xE X C W (.ite a b c)) := by
  refine (pe_ifExp ht ha hb).imp fun σ H Q ⟨Φ, Z, β, ρ, U, r, S, R, h, o⟩ => ?_
  rw [ev] at h
  refine tT_bnd S R h o.wish fun Z1 β1 H1 k U1 z1 b1 R1 S1 h1 => ?_
  cases k with
  | false =>
    simp only [Bool.false_eq_true, if_false] at h1 ⊢
    exact ⟨Φ, Z1, β1, ρ, U1, r, S1, R1, h1, o.monoE z1 b1⟩
  | true =>
    simp only [if_true] at h1 ⊢
    exact ⟨Φ, Z1, β1, ρ, U1, r, S1, R1, h1, o.monoE z1 b1⟩
/-! ### lists of expressions, displays -/
def IEs.len : IEs → Nat
  | .nil => 0
  | .cons _ r => r.len + 1
theorem evs_len : ∀ {es : IEs} {ρ : Rho} {U U' : Store} {ds : List D}, evs C es ρ U = some (.ok ds U') → ds.length = es.len
  | .nil, ρ, U, U', ds, h => by
    rw [evs] at h
    cases h
    rfl
  | .cons e r, ρ, U, U', ds, h => by
    rw [evs] at h
    cases q : ev C e ρ U with
    | none => rw [q] at h; cases h
    | some r1 =>
      rw [q] at h
      cases r1 with
      | ex x V => cases h
      | ok d V =>
        rw [bnd_ok] at h
        cases q2 : evs C r ρ V with
        | none => rw [q2] at h; cases h
        | some r2 =>
          rw [q2] at h
          cases r2 with
          | ex x V => cases h
          | ok ds2 V2 =>
            cases h
            simp [IEs.len, evs_len q2]
theorem n_nil : PA X [] (xA X C W .nil) := by
  refine ⟨fun pos pins s σ H Q I ⟨Φ, Z, β, ρ, U, r, S, R, h, o⟩ => pa_nil.run pos pins s σ H Q I ?_⟩
  rw [evs] at h
  cases h
  exact o.ok Z β H [] (ZLe.refl _) (BLe.refl _) R RepL.nil
theorem n_cons {es : List Expr} {as : IEs} (ht : tame e = true) (ha : PE X e (xE X C W a)) (hb : PA X es (xA X C W as)) : PA X (e :: es) (xA X C W (.cons a as)) := by
  refine ⟨fun pos pins s σ H Q I ⟨Φ, Z, β, ρ, U, r, S, R, h, o⟩ => (pa_cons ha hb (star_tame ht es X.env)).run pos pins s σ H Q I ?_⟩
  rw [evs] at h
  refine tE_bnd S R h o.wish fun Z1 β1 H1 d v U1 z1 b1 R1 r1 S1 h1 => ?_
  refine tA_bnd S1 R1 h1 (o.monoL z1 b1).wish fun Z2 β2 H2 ds vs U2 z2 b2 R2 r2 S2 h2 => ?_
  cases h2
  exact ((o.monoL z1 b1).monoL z2 b2).ok Z2 β2 H2 (v :: vs) (ZLe.refl _) (BLe.refl _) R2 (RepL.cons (RepV.mono z2 b2 r1) r2)
theorem n_tup {es : List Expr} {as : IEs} {k : Nat} (hl : as.len ≤ 1000) (ha : PA X es (xA X C W as)) : PE X (.Tuple es k pos) (xE X C W (.tup as)) := by
  refine (pe_tup ha).imp fun σ H Q ⟨Φ, Z, β, ρ, U, r, S, R, h, o⟩ => ?_
  rw [ev] at h
  cases q : evs C as ρ U with
  | none => rw [q] at h; cases h
  | some r1 =>
    rw [q] at h
    refine ⟨Φ, Z, β, ρ, U, r1, S, R, q, ?_⟩
    cases r1 with
    | ex x V =>
      cases h
      exact o
    | ok ds V =>
      cases h
      intro Z1 β1 H1 vs z1 b1 R1 r1
      refine ⟨?_, fun p hp => Done.tup (Done.mono o z1 b1) R1 r1 hp⟩
      rw [← r1.length, evs_len q, sizeLine_eq]
      omega
theorem n_lst {es : List Expr} {as : IEs} {m : Bool} (hl : as.len ≤ 1000) (ha : PA X es (xA X C W as)) : PE X (.List es pos) (xE X C W (.lst m as)) := by
  refine (pe_lst ha).imp fun σ H Q ⟨Φ, Z, β, ρ, U, r, S, R, h, o⟩ => ?_
  rw [ev] at h
  cases q : evs C as ρ U with
  | none => rw [q] at h; cases h
  | some r1 =>
    rw [q] at h
    refine ⟨Φ, Z, β, ρ, U, r1, S, R, q, ?_⟩
    cases r1 with
    | ex x V =>
      cases h
      exact o
    | ok ds V =>
      rw [bnd_ok] at h
      obtain ⟨d3, U3, rfl⟩ := must h fun x V => mkL_ok
      intro Z1 β1 H1 vs z1 b1 R1 r1
      refine ⟨?_, fun p hp => Done.lst (Done.mono o z1 b1) R1 h r1 hp⟩
      rw [← r1.length, evs_len q, sizeLine_eq]
      omega
/-! ### items, slices -/
theorem n_idx (hu : X.A.units + 64 < cLine) (ht : tame e2 = true) (ha : PE X e1 (xE X C W a)) (hb : PE X e2 (xE X C W b)) : PE X (.Subscript e1 e2 pos) (xE X C W (.idx a b)) := by
  refine (pe_ix (ix_all hu) ha hb (ix_tame ht)).imp fun σ H Q ⟨Φ, Z, β, ρ, U, r, S, R, h, o⟩ => ?_
  rw [ev] at h
  refine tE_bnd S R h o.wish fun Z1 β1 H1 d v U1 z1 b1 R1 r1 S1 h1 => ?_
  refine tE_bnd S1 R1 h1 (o.monoE z1 b1).wish fun Z2 β2 H2 d2 v2 U2 z2 b2 R2 r2 S2 h2 => ?_
  obtain ⟨d3, U3, rfl⟩ := must h2 fun x V => index1_ok
  exact ⟨Φ, Z2, β2, U2, d, d2, d3, U3, R2, RepV.mono z2 b2 r1, r2, h2, ((o.monoE z1 b1).monoE z2 b2)⟩
/-- a part of a slice -/
def xO (X : Cx) (C : Cal) (W : WX) (e : IE) : TO := fun σ H Q => ∃ Φ Z β ρ U r, RepS X.prog X.w X.K Z β ρ σ ∧ Rel X.prog X.w X.K X.mg Φ Z β U H ∧ ev C e ρ U = some r ∧
  Out X.prog X.w X.K X.mg W Φ Z β σ (fun d U' => ∃ o, bnd? d = some o ∧ DoneB X.prog X.w X.K X.mg Φ Z β U' (Q o)) r
theorem n_none : PO X none (xO X C W (.cst .non)) := by
  refine ⟨fun pins s σ H Q I ⟨Φ, Z, β, ρ, U, r, S, R, h, o⟩ => po_none.run pins s σ H Q I ?_⟩
  rw [ev] at h
  cases h
  obtain ⟨o1, e1, q⟩ := o.ok
  cases e1
  exact q Z β H (ZLe.refl _) (BLe.refl _) R
theorem n_some (ha : PE X e (xE X C W a)) : PO X (some e) (xO X C W a) := by
  refine ⟨fun pins s σ H Q I ⟨Φ, Z, β, ρ, U, r, S, R, h, o⟩ => ?_⟩
  rw [evalPart_some]
  refine L2.thn (ha.run pins s σ H (fun v H' => (v = .non ∧ Q none H') ∨ ∃ i, v = .int i ∧ Q (some i) H') I ⟨Φ, Z, β, ρ, U, r, S, R, h, ?_⟩) fun u s1 ⟨x, H1, I1, r1, q1⟩ => ?_
  · cases r with
    | ex x V => exact o
    | ok d V =>
      obtain ⟨o1, e1, q⟩ := o.ok
      intro Z1 β1 H1 v z1 b1 R1 r1
      cases d with
      | non =>
        cases e1
        simp only [RepV] at r1
        exact .inl ⟨r1, q Z1 β1 H1 z1 b1 R1⟩
      | int i =>
        cases e1
        simp only [RepV] at r1
        exact .inr ⟨i, r1, q Z1 β1 H1 z1 b1 R1⟩
      | _ => cases e1
  · rcases q1 with ⟨rfl, q⟩ | ⟨i, rfl, q⟩
    · cases r1
      exact ⟨none, H1, I1, .none, q⟩
    · obtain ⟨t, rfl⟩ := r1
      exact ⟨some i, H1, I1, .int i t, q⟩
theorem n_slc {m : Bool} {lo hi : Option Expr} {p2 : Pos} (ha : PE X e1 (xE X C W a)) (hb : PO X lo (xO X C W b)) (hc : PO X hi (xO X C W c)) : PE X (.Subscript e1 (.Slice lo hi none p2) pos) (xE X C W (.slc m a b c)) := by
  refine (pe_slice (sl_all m) ha hb hc).imp fun σ H Q ⟨Φ, Z, β, ρ, U, r, S, R, h, o⟩ => ?_
  rw [ev] at h
  refine tE_bnd S R h o.wish fun Z1 β1 H1 d v U1 z1 b1 R1 r1 S1 h1 => ?_
  cases q1 : ev C b ρ U1 with
  | none => rw [q1] at h1; cases h1
  | some g1 =>
    rw [q1] at h1
    refine ⟨Φ, Z1, β1, ρ, U1, g1, S1, R1, q1, ?_⟩
    cases g1 with
    | ex x V =>
      cases h1
      exact (o.monoE z1 b1)
    | ok dl V =>
      rw [bnd_ok] at h1
      split at h1
      rotate_left
      · cases h1
      rename_i hl0
      have hl1 := Option.isSome_iff_exists.mp hl0
      cases q2 : ev C c ρ V with
      | none => rw [q2] at h1; cases h1
      | some g2 =>
        rw [q2] at h1
        cases g2 with
        | ex x V2 =>
          cases h1
          obtain ⟨l, el⟩ := hl1
          exact ⟨l, el, fun Z2 β2 H2 z2 b2 R2 => ⟨Φ, Z2, β2, ρ, V, .ex x V2, S1.mono z2 b2, R2, q2, (o.monoE z1 b1).monoE z2 b2⟩⟩
        | ok dh V2 =>
          rw [bnd_ok] at h1
          obtain ⟨d3, U3, rfl⟩ := must h1 fun x V => slice1_ok
          have hl : (∃ o, bnd? dl = some o) ∧ ∃ o, bnd? dh = some o := by
            unfold slice1 at h1
            split at h1
            · exact ⟨⟨_, by assumption⟩, ⟨_, by assumption⟩⟩
            · cases h1
          obtain ⟨⟨l, el⟩, u, eu⟩ := hl
          refine ⟨l, el, fun Z2 β2 H2 z2 b2 R2 => ⟨Φ, Z2, β2, ρ, V, .ok dh V2, S1.mono z2 b2, R2, q2, u, eu, fun Z3 β3 H3 z3 b3 R3 => ?_⟩⟩
          exact ⟨Φ, Z3, β3, V2, d, dl, dh, d3, U3, R3, RepV.mono (z2.trans z3) (b2.trans b3) r1, el, eu, h1, ((o.monoE z1 b1).monoE z2 b2).monoE z3 b3⟩
end
end VI

/-! VIc3: calls. -/
namespace VI
open PySem PySem.Spec PyProof.Rows L2
section
variable {P : Program} {w : World} {K : PySem.W.Frag} {Z₀ Z' : Hp} {β β' : List Addr}
mutual
/-- what once stood in less needs no more -/
theorem RepV.cutB (b : BLe β β') : ∀ {d : D} {v₀ v : V}, RepV P w K Z₀ β d v₀ → RepV P w K Z' β' d v → RepV P w K Z' β d v
  | .non, _, _, _, h => by simp only [RepV] at h ⊢; exact h
  | .bl _, _, _, _, h => by simp only [RepV] at h ⊢; exact h
  | .int _, _, _, _, h => by simp only [RepV] at h ⊢; exact h
  | .str _, _, _, _, h => by simp only [RepV] at h ⊢; exact h
  | .exn _ _, _, _, h₀, _ => by simp only [RepV] at h₀
  | .tup xs, v₀, v, h₀, h => by
    simp only [RepV] at h₀ h ⊢
    obtain ⟨_, vs₀, _, _, q₀⟩ := h₀
    obtain ⟨a, vs, e, s, q⟩ := h
    exact ⟨a, vs, e, s, RepL.cutB b q₀ q⟩
  | .lst xs, v₀, v, h₀, h => by
    simp only [RepV] at h₀ h ⊢
    obtain ⟨_, vs₀, _, _, q₀⟩ := h₀
    obtain ⟨a, vs, e, s, q⟩ := h
    exact ⟨a, vs, e, s, RepL.cutB b q₀ q⟩
  | .dct t kvs, v₀, v, h₀, h => by
    simp only [RepV] at h₀ h ⊢
    obtain ⟨_, _, q₀⟩ := h₀
    obtain ⟨a, e, q⟩ := h
    refine ⟨a, e, ?_⟩
    rcases q with ⟨t0, l, e1, q⟩ | ⟨t1, l, e1, nd, q⟩
    · rcases q₀ with ⟨_, l₀, _, q₀⟩ | ⟨t1, _⟩
      · exact .inl ⟨t0, l, e1, RepK.cutB b q₀ q⟩
      · rw [t0] at t1; cases t1
    · rcases q₀ with ⟨t0, _⟩ | ⟨_, l₀, _, _, q₀⟩
      · rw [t0] at t1; cases t1
      · exact .inr ⟨t1, l, e1, nd, RepT.cutB b q₀ q⟩
  | .ref n, v₀, v, h₀, h => by
    simp only [RepV] at h₀ h ⊢
    obtain ⟨a₀, _, e₀⟩ := h₀
    obtain ⟨a, e, e1⟩ := h
    rw [b.get e₀] at e1
    cases e1
    exact ⟨a₀, e, e₀⟩
theorem RepL.cutB (b : BLe β β') : ∀ {d : List D} {v₀ v : List V}, RepL P w K Z₀ β d v₀ → RepL P w K Z' β' d v → RepL P w K Z' β d v
  | [], _, _, _, h => by simp only [RepL] at h ⊢; exact h
  | x :: r, v₀, v, h₀, h => by
    simp only [RepL] at h₀ h ⊢
    obtain ⟨_, _, _, p₀, q₀⟩ := h₀
    obtain ⟨v, s, e, p, q⟩ := h
    exact ⟨v, s, e, RepV.cutB b p₀ p, RepL.cutB b q₀ q⟩
theorem RepK.cutB (b : BLe β β') : ∀ {d : List (D × D)} {v₀ v : List (Key × V)}, RepK P w K Z₀ β d v₀ → RepK P w K Z' β' d v → RepK P w K Z' β d v
  | [], _, _, _, h => by simp only [RepK] at h ⊢; exact h
  | (k, x) :: r, v₀, v, h₀, h => by
    simp only [RepK] at h₀ h ⊢
    obtain ⟨_, _, _, _, _, p₀, q₀⟩ := h₀
    obtain ⟨kk, v, s, e, hk, p, q⟩ := h
    exact ⟨kk, v, s, e, hk, RepV.cutB b p₀ p, RepK.cutB b q₀ q⟩
theorem RepT.cutB (b : BLe β β') : ∀ {d : List (D × D)} {v₀ v : List (NestedKey × Addr × Value)}, RepT P w K Z₀ β d v₀ → RepT P w K Z' β' d v → RepT P w K Z' β d v
  | [], _, _, _, h => by simp only [RepT] at h ⊢; exact h
  | (k, x) :: r, v₀, v, h₀, h => by
    simp only [RepT] at h₀ h ⊢
    obtain ⟨_, _, _, _, _, _, k₀, _, p₀, q₀⟩ := h₀
    obtain ⟨c, u, v, s, e, hk, rk, ru, p, q⟩ := h
    exact ⟨c, u, v, s, e, hk, RepV.cutB b k₀ rk, ru, RepV.cutB b p₀ p, RepT.cutB b q₀ q⟩
end
theorem RepF.cutB (b : BLe β β') : ∀ {d : List (String × D)} {v₀ v : List (Str × V)}, RepF P w K Z₀ β d v₀ → RepF P w K Z' β' d v → RepF P w K Z' β d v
  | [], _, _, _, h => h
  | (k, x) :: r, v₀, v, h₀, h => by
    obtain ⟨_, _, _, p₀, q₀⟩ := h₀
    obtain ⟨v, s, e, p, q⟩ := h
    exact ⟨v, s, e, RepV.cutB b p₀ p, RepF.cutB b q₀ q⟩
theorem RepO.cutB {mg : Str → Option Value} {H H' : Hp} (b : BLe β β') {o : MO} {a a' : Addr} (h₀ : RepO P w K mg Z₀ β H o a) (h : RepO P w K mg Z' β' H' o a') : RepO P w K mg Z' β H' o a' := by
  cases o with
  | lst xs =>
    obtain ⟨vs₀, _, q₀⟩ := h₀
    obtain ⟨vs, e, q⟩ := h
    exact ⟨vs, e, q₀.cutB b q⟩
  | dct t kvs =>
    rcases h with ⟨t0, l, e1, q⟩ | ⟨t1, l, e1, nd, q⟩
    · rcases h₀ with ⟨_, l₀, _, q₀⟩ | ⟨t1, _⟩
      · exact .inl ⟨t0, l, e1, RepK.cutB b q₀ q⟩
      · rw [t0] at t1; cases t1
    · rcases h₀ with ⟨t0, _⟩ | ⟨_, l₀, _, _, q₀⟩
      · rw [t0] at t1; cases t1
      · exact .inr ⟨t1, l, e1, nd, RepT.cutB b q₀ q⟩
  | ins c fs =>
    obtain ⟨_, _, l₀, _, _, q₀⟩ := h₀
    obtain ⟨C, dx, l, e1, e2, q⟩ := h
    exact ⟨C, dx, l, e1, e2, q₀.cutB b q⟩
end
section
variable {P : Program} {w : World} {K : PySem.W.Frag} {mg : Str → Option Value} {Φ : List (Addr × HO)} {Z Z' : Hp} {β β' : List Addr} {U V : Store} {H H' : Hp}
open Classical in
/-- what a call made, taken as frozen -/
noncomputable def frzZ (Z' : Hp) (β' : List Addr) (n : Nat) (H' : Hp) : Hp := fun a => if a ∈ β'.drop n then H' a else Z' a
theorem Rel.frz (R : Rel P w K mg Φ Z β U H) (b : BLe β β') (R' : Rel P w K mg Φ Z' β' V H') (hV : V.take U.length = U) :
    Rel P w K mg Φ (frzZ Z' β' U.length H') β U H' ∧ ZLe Z' (frzZ Z' β' U.length H') := by
  have le : ZLe Z' (frzZ Z' β' U.length H') := fun a o e => by
    unfold frzZ
    rw [if_neg (fun hm => by
      have := R'.sep a (List.mem_of_mem_drop hm)
      rw [this] at e
      cases e)]
    exact e
  obtain ⟨γ, hγ⟩ := b
  have hd : β'.drop U.length = γ := by
    rw [hγ, ← R.len, List.drop_left]
  have hβ : ∀ a ∈ β, a ∉ β'.drop U.length := fun a ha hm => by
    rw [hd] at hm
    have nd := R'.nd
    rw [hγ, List.nodup_append] at nd
    exact nd.2.2 a ha a hm rfl
  refine ⟨⟨fun a o e => ?_, R.len, R.nd, fun a ha => ?_, fun n o a e1 e2 => ?_, fun q hq => ?_⟩, le⟩
  · unfold frzZ at e
    split at e
    · exact e
    · exact R'.zle a o e
  · unfold frzZ
    rw [if_neg (hβ a ha)]
    exact R'.sep a (by rw [hγ]; exact List.mem_append_left _ ha)
  · have e3 : V[n]? = some o := by
      rw [← hV] at e1
      rw [List.getElem?_take] at e1
      split at e1
      · exact e1
      · cases e1
    have e4 : β'[n]? = some a := BLe.get ⟨γ, hγ⟩ e2
    have h1 := R'.obj n o a e3 e4
    have h2 := R.obj n o a e1 e2
    exact (RepO.cutB ⟨γ, hγ⟩ h2 h1).mono le (BLe.refl β) rfl
  · obtain ⟨q1, q2, q3⟩ := R'.ext q hq
    refine ⟨q1, ?_, (R.ext q hq).2.2⟩
    unfold frzZ
    rw [if_neg fun hm => q3 (List.mem_of_mem_drop hm)]
    exact q2
theorem done_frz {d d' : D} {Q : VK} (R : Rel P w K mg Φ Z β U H) (hV : V.take U.length = U) (hs : rs V U.length d = some d') (dn : Done P w K mg Φ Z β d' U Q) : Done P w K mg Φ Z β d V Q := fun Z' β' H' v z b R' r' => by
  obtain ⟨R2, z2⟩ := R.frz b R' hV
  refine dn _ β H' v (z.trans z2) (BLe.refl β) R2 ?_
  refine rsv_rep z2 (fun n a d' e1 e2 => ?_) hs r'
  refine subAt_rep R' z2 (fun n a hn e => ?_) (fun n a hn e => ?_) 8 _ _ _ e1 e2
  · unfold frzZ
    rw [if_pos]
    exact List.mem_drop_iff_getElem.mpr (by
      obtain ⟨h1, h2⟩ := List.getElem?_eq_some_iff.mp e
      exact ⟨n - U.length, by omega, by simp only [show U.length + (n - U.length) = n by omega]; exact h2⟩)
  · obtain ⟨γ, hγ⟩ := b
    rw [hγ, List.getElem?_append_left (by rw [R.len]; exact hn)] at e
    exact e
theorem doneX_frz {x : Ex} {E : XK} (R : Rel P w K mg Φ Z β U H) (hV : V.take U.length = U) (hp : flat x.p = true) (dn : DoneX P w K mg Φ Z β x U E) : DoneX P w K mg Φ Z β x V E := fun Z' β' H' C dx v z b R' hc r' hd => by
  obtain ⟨R2, z2⟩ := R.frz b R' hV
  refine dn _ β H' C dx v (z.trans z2) (BLe.refl β) R2 hc ?_ hd
  obtain ⟨c, p⟩ := x
  cases p <;> simp [flat] at hp <;> simp only [RepV] at r' ⊢ <;> exact r'
end
end VI

/-! VIc4: calls of defs. -/
namespace VI
open PySem PySem.Spec PyProof.Rows L2
/-- a def's promise by the evaluator -/
def spV (P : Program) (w : World) (K : PySem.W.Frag) (mg : Str → Option Value) (C : Cal) (f : String) : Sp := fun vs H Q E => ∃ Φ Z β U ds r, Rel P w K mg Φ Z β U H ∧ RepL P w K Z β ds vs ∧ C f ds U = some r ∧
  match r with
  | .ok d U' => Done P w K mg Φ Z β d U' Q
  | .ex x U' => DoneX P w K mg Φ Z β x U' E
/-- a def that may be called -/
def FnHyp (P : Program) (w : World) (K : PySem.W.Frag) (mg : Str → Option Value) (base : Heap) (C : Cal) (k : Nat) (f : String) : Prop :=
  ∃ (a : Addr) (fd : FuncData) (ps : List Str), mg (Str.ofString f) = some (.ref a) ∧ PySem.W.keepIn K (.ref a) = true ∧ FnOk P w K mg base (L2.CX P w) k a fd ps (spV P w K mg C f) ∧ Binds K fd ps []
section
variable {X : Cx} {C : Cal} {W : WX} {e e1 e2 e3 : Expr} {a b c : IE} {pos p : Pos} {es : List Expr} {as : IEs} {k : Nat} {f : String}
/-- what a call gives, by its promise -/
theorem sp_frz {P : Program} {w : World} {K : PySem.W.Frag} {mg : Str → Option Value} {Φ : List (Addr × HO)} {Z : Hp} {β : List Addr} {U : Store} {H : Hp} {C : Cal} {f : String} {ds : List D} {vs : List V} {Q : VK} {W : WX} {σ : L2.St} {fz : Bool} {r : VI.R D}
    (R : Rel P w K mg Φ Z β U H) (q : RepL P w K Z β ds vs) (h : VI.frz fz U (C f ds U) = some r) (o : Out P w K mg W Φ Z β σ (fun d U' => Done P w K mg Φ Z β d U' Q) r) : spV P w K mg C f vs H Q fun cls d H => W cls d σ H := by
  cases fz with
  | false =>
    unfold VI.frz at h
    rw [if_neg Bool.false_ne_true] at h
    refine ⟨Φ, Z, β, U, ds, r, R, q, h, ?_⟩
    cases r with
    | ok d U' => exact o
    | ex x U' => exact o
  | true =>
    unfold VI.frz at h
    rw [if_pos rfl] at h
    split at h
    · rename_i d V hc
      split at h
      · rename_i hV
        split at h
        · rename_i d' hs
          cases h
          exact ⟨Φ, Z, β, U, ds, _, R, q, hc, done_frz R hV hs o⟩
        · cases h
      · cases h
    · rename_i x V hc
      split at h
      · rename_i hV
        cases h
        exact ⟨Φ, Z, β, U, ds, _, R, q, hc, doneX_frz R hV.1 hV.2 o⟩
      · cases h
    · cases h
theorem n_call {fz : Bool} (tk : Takes X W) (hr : Room k X.A) (hg : Gl X (Str.ofString f)) (F : FnHyp X.prog X.w X.K X.mg X.base C k f) (hdb : (Str.ofString f == ("__debug__" : Str)) = false) (ht : (e :: es).all tame = true)
    (ha : PA X (e :: es) (xA X C W as)) : PE X (.Call (.Name (Str.ofString f) p) (e :: es) [] pos) (xE X C W (.call fz f as)) := by
  obtain ⟨a, fd, ps, hm, hk, F, hb⟩ := F
  simp only [List.all_cons, Bool.and_eq_true] at ht
  refine (pe_callS (E := WE W) F hr hg hm hk hb (passAt tk) ha hdb (star_tame ht.1 es _) (stars_tame ht.2 pos _)).imp fun σ H Q ⟨Φ, Z, β, ρ, U, r, S, R, h, o⟩ => ?_
  rw [ev] at h
  refine tA_bnd S R h o.wish fun Z1 β1 H1 ds vs U1 z1 b1 R1 r1 S1 h1 => ?_
  exact sp_frz R1 r1 h1 (o.monoE z1 b1)
theorem n_call0 {fz : Bool} (tk : Takes X W) (hr : Room k X.A) (hg : Gl X (Str.ofString f)) (F : FnHyp X.prog X.w X.K X.mg X.base C k f) (hdb : (Str.ofString f == ("__debug__" : Str)) = false) :
    PE X (.Call (.Name (Str.ofString f) p) [] [] pos) (xE X C W (.call fz f .nil)) := by
  obtain ⟨a, fd, ps, hm, hk, F, hb⟩ := F
  refine ⟨fun pins s σ H Q I ⟨Φ, Z, β, ρ, U, r, S, R, h, o⟩ => ?_⟩
  rw [ev, evs, bnd_ok] at h
  refine wpAny_Call_Name_kw (ld_glob I hg hm ?_ hdb)
  exact PySem.W.callWith_K0 I.kIn hk (run_fnS (us := []) F hr hb (passAt tk σ) I .nil (sp_frz (W := W) R RepL.nil h o))
end
/-! ### a def's body -/
section
variable (P : Program) (w : World) (K : PySem.W.Frag) (mg : Str → Option Value) (C : Cal) (W : WX)
/-- a statement's wish -/
def OutS (Φ : List (Addr × HO)) (Z : Hp) (β : List Addr) (E : Ends) (r : RS) : Prop :=
  match r with
  | .nx ρ U' => ∀ (Z' : Hp) (β' : List Addr) (H' : Hp) (σ' : L2.St), ZLe Z Z' → BLe β β' → Rel P w K mg Φ Z' β' U' H' → RepS P w K Z' β' ρ σ' → E.nx σ' H'
  | .bk ρ U' => ∀ (Z' : Hp) (β' : List Addr) (H' : Hp) (σ' : L2.St), ZLe Z Z' → BLe β β' → Rel P w K mg Φ Z' β' U' H' → RepS P w K Z' β' ρ σ' → E.bk σ' H'
  | .rt d U' => Done P w K mg Φ Z β d U' E.rt
  | .ex x ρ U' => ∀ (Z' : Hp) (β' : List Addr) (σ' : L2.St), ZLe Z Z' → BLe β β' → RepS P w K Z' β' ρ σ' → DoneX P w K mg Φ Z' β' x U' fun cls d H => W cls d σ' H
def tS (s : IS) : TS := fun E σ H => ∃ Φ Z β ρ U r, RepS P w K Z β ρ σ ∧ Rel P w K mg Φ Z β U H ∧ exec C s ρ U = some r ∧ OutS P w K mg W Φ Z β E r
def tSs (s : ISs) : TS := fun E σ H => ∃ Φ Z β ρ U r, RepS P w K Z β ρ σ ∧ Rel P w K mg Φ Z β U H ∧ execs C s ρ U = some r ∧ OutS P w K mg W Φ Z β E r
end
section
variable {P : Program} {w : World} {K : PySem.W.Frag} {mg : Str → Option Value} {C : Cal} {W : WX} {Φ : List (Addr × HO)} {Z Z' : Hp} {β β' : List Addr} {ρ : Rho} {σ : L2.St} {U : Store} {H : Hp} {E : Ends}
theorem OutS.mono {r : RS} (o : OutS P w K mg W Φ Z β E r) (z : ZLe Z Z') (b : BLe β β') : OutS P w K mg W Φ Z' β' E r := by
  cases r with
  | nx ρ U' => exact fun Z2 β2 H2 σ2 z2 b2 => o Z2 β2 H2 σ2 (z.trans z2) (b.trans b2)
  | bk ρ U' => exact fun Z2 β2 H2 σ2 z2 b2 => o Z2 β2 H2 σ2 (z.trans z2) (b.trans b2)
  | rt d U' => exact Done.mono o z b
  | ex x ρ U' => exact fun Z2 β2 σ2 z2 b2 => o Z2 β2 σ2 (z.trans z2) (b.trans b2)
/-- an expression, then the rest of a statement -/
theorem tE_bndS {e : IE} {f : D → Store → Option RS} {r : RS} {Q : VK} (S : RepS P w K Z β ρ σ) (R : Rel P w K mg Φ Z β U H) (h : bndS (ev C e ρ U) ρ f = some r) (o : OutS P w K mg W Φ Z β E r)
    (k : ∀ Z' β' H' d v U', ZLe Z Z' → BLe β β' → Rel P w K mg Φ Z' β' U' H' → RepV P w K Z' β' d v → RepS P w K Z' β' ρ σ → f d U' = some r → OutS P w K mg W Φ Z' β' E r → Q v H') : tE P w K mg C W e σ H Q := by
  cases q : ev C e ρ U with
  | none => rw [q] at h; cases h
  | some r1 =>
    rw [q] at h
    refine ⟨Φ, Z, β, ρ, U, r1, S, R, q, ?_⟩
    cases r1 with
    | ok d U' => exact fun Z' β' H' v z b R' r' => k Z' β' H' d v U' z b R' r' (S.mono z b) h (o.mono z b)
    | ex x U' =>
      cases h
      exact o Z β σ (ZLe.refl Z) (BLe.refl β) S
theorem tT_bndS {e : IE} {f : Bool → Store → Option RS} {r : RS} {Q : Bool → Hp → Prop} (S : RepS P w K Z β ρ σ) (R : Rel P w K mg Φ Z β U H) (h : bndS (evB C e ρ U) ρ f = some r) (o : OutS P w K mg W Φ Z β E r)
    (k : ∀ Z' β' H' d U', ZLe Z Z' → BLe β β' → Rel P w K mg Φ Z' β' U' H' → RepS P w K Z' β' ρ σ → f d U' = some r → OutS P w K mg W Φ Z' β' E r → Q d H') : tT P w K mg C W e σ H Q := by
  cases q : evB C e ρ U with
  | none => rw [q] at h; cases h
  | some r1 =>
    rw [q] at h
    refine ⟨Φ, Z, β, ρ, U, r1, S, R, q, ?_⟩
    cases r1 with
    | ok d U' => exact fun Z' β' H' z b R' => k Z' β' H' d U' z b R' (S.mono z b) h (o.mono z b)
    | ex x U' =>
      cases h
      exact o Z β σ (ZLe.refl Z) (BLe.refl β) S
end
section
variable {X : Cx} {C : Cal} {W : WX} {e e1 e2 e3 : Expr} {a b c : IE} {pos p : Pos} {st : Stmt} {sts sts2 : List Stmt} {s : IS} {ss ss2 : ISs}
abbrev xS (X : Cx) (C : Cal) (W : WX) (s : IS) : TS := tS X.prog X.w X.K X.mg C W s
abbrev xSs (X : Cx) (C : Cal) (W : WX) (s : ISs) : TS := tSs X.prog X.w X.K X.mg C W s
theorem _root_.L2.PS.imp {t t' : TS} (h : PS X st t) (i : ∀ E σ H, t' E σ H → t E σ H) : PS X st t' := ⟨fun pins s σ H E I q => h.run pins s σ H E I (i E σ H q)⟩
theorem _root_.L2.PSs.imp {t t' : TS} (h : PSs X sts t) (i : ∀ E σ H, t' E σ H → t E σ H) : PSs X sts t' := ⟨fun pins s σ H E I q => h.run pins s σ H E I (i E σ H q)⟩
theorem s_nil : PSs X [] (xSs X C W .nil) := by
  refine pss_nil.imp fun E σ H ⟨Φ, Z, β, ρ, U, r, S, R, h, o⟩ => ?_
  rw [execs] at h
  cases h
  exact o Z β H σ (ZLe.refl Z) (BLe.refl β) R S
theorem s_cons (h1 : PS X st (xS X C W s)) (h2 : PSs X sts (xSs X C W ss)) : PSs X (st :: sts) (xSs X C W (.cons s ss)) := by
  refine (pss_cons h1 h2).imp fun E σ H ⟨Φ, Z, β, ρ, U, r, S, R, h, o⟩ => ?_
  rw [execs] at h
  cases q : exec C s ρ U with
  | none => rw [q] at h; cases h
  | some r1 =>
    rw [q] at h
    refine ⟨Φ, Z, β, ρ, U, r1, S, R, q, ?_⟩
    cases r1 with
    | nx ρ1 U1 => exact fun Z1 β1 H1 σ1 z1 b1 R1 S1 => ⟨Φ, Z1, β1, ρ1, U1, r, S1, R1, h, o.mono z1 b1⟩
    | rt d U1 => cases h; exact o
    | bk ρ1 U1 => cases h; exact o
    | ex x ρ1 U1 => cases h; exact o
/-- a docstring ahead -/
theorem s_doc {x : Str} {j : Nat} {pos' : Pos} (h : PSs X sts (xSs X C W ss)) : PSs X (.Expr (.Constant (.str x) j pos) pos' :: sts) (xSs X C W ss) := (pss_cons ps_doc h).imp fun E σ H q => q
theorem s_pass : PS X (.Pass pos) (xS X C W .pass) := by
  refine ps_pass.imp fun E σ H ⟨Φ, Z, β, ρ, U, r, S, R, h, o⟩ => ?_
  rw [exec] at h
  cases h
  exact o Z β H σ (ZLe.refl Z) (BLe.refl β) R S
theorem s_brk : PS X (.Break pos) (xS X C W .brk) := by
  refine ps_break.imp fun E σ H ⟨Φ, Z, β, ρ, U, r, S, R, h, o⟩ => ?_
  rw [exec] at h
  cases h
  exact o Z β H σ (ZLe.refl Z) (BLe.refl β) R S
theorem s_expr (hn : noComp e = true) (ha : PE X e (xE X C W a)) : PS X (.Expr e pos) (xS X C W (.expr a)) := by
  refine (ps_expr ha (swaps_no hn _ _ _)).imp fun E σ H ⟨Φ, Z, β, ρ, U, r, S, R, h, o⟩ => ?_
  rw [exec] at h
  refine tE_bndS S R h o fun Z1 β1 H1 d v U1 z1 b1 R1 r1 S1 h1 o1 => ?_
  cases h1
  exact o1 Z1 β1 H1 σ (ZLe.refl _) (BLe.refl _) R1 S1
theorem s_ret (ha : PE X e (xE X C W a)) : PS X (.Return (some e) pos) (xS X C W (.ret a)) := by
  refine (ps_ret ha).imp fun E σ H ⟨Φ, Z, β, ρ, U, r, S, R, h, o⟩ => ?_
  rw [exec] at h
  refine tE_bndS S R h o fun Z1 β1 H1 d v U1 z1 b1 R1 r1 S1 h1 o1 => ?_
  cases h1
  exact Done.same o1 R1 r1
theorem s_retN : PS X (.Return none pos) (xS X C W .retN) := by
  refine ps_retN.imp fun E σ H ⟨Φ, Z, β, ρ, U, r, S, R, h, o⟩ => ?_
  rw [exec] at h
  cases h
  exact Done.non o R
theorem s_if (ht : PT X e (xT X C W a)) (h1 : PSs X sts (xSs X C W ss)) (h2 : PSs X sts2 (xSs X C W ss2)) : PS X (.If e sts sts2 pos) (xS X C W (.ifS a ss ss2)) := by
  refine (ps_if ht h1 h2).imp fun E σ H ⟨Φ, Z, β, ρ, U, r, S, R, h, o⟩ => ?_
  rw [exec] at h
  refine tT_bndS S R h o fun Z1 β1 H1 k U1 z1 b1 R1 S1 h1 o1 => ?_
  cases k with
  | true =>
    simp only [if_true] at h1 ⊢
    exact ⟨Φ, Z1, β1, ρ, U1, r, S1, R1, h1, o1⟩
  | false =>
    simp only [Bool.false_eq_true, if_false] at h1 ⊢
    exact ⟨Φ, Z1, β1, ρ, U1, r, S1, R1, h1, o1⟩
theorem s_while (hp : PassesOwn (model X.prog X.w) X.A X.env X.xe) (ht : PT X e (xT X C W a)) (hb : PSs X sts (xSs X C W ss)) : PS X (.While e sts [] pos) (xS X C W (.whileS a ss)) := by
  refine (ps_while hp ht hb).imp fun E σ H ⟨Φ, Z, β, ρ, U, r, S, R, h, o⟩ => ?_
  rw [exec] at h
  refine ⟨fun m σ H => ∃ Φ Z β ρ U r, RepS X.prog X.w X.K Z β ρ σ ∧ Rel X.prog X.w X.K X.mg Φ Z β U H ∧ whileGo (evB C a) (execs C ss) m ρ U = some r ∧ OutS X.prog X.w X.K X.mg W Φ Z β E r, ⟨WN, Φ, Z, β, ρ, U, r, S, R, h, o⟩, ?_⟩
  intro m σ H ⟨Φ, Z, β, ρ, U, r, S, R, h, o⟩
  cases m with
  | zero => cases h
  | succ m =>
    rw [whileGo] at h
    refine tT_bndS S R h o fun Z1 β1 H1 k U1 z1 b1 R1 S1 h1 o1 => ?_
    cases k with
    | false =>
      simp only [Bool.false_eq_true, if_false] at h1 ⊢
      cases h1
      exact o1 Z1 β1 H1 σ (ZLe.refl _) (BLe.refl _) R1 S1
    | true =>
      simp only [if_true] at h1 ⊢
      refine ⟨fun σ' H' => ∃ Φ Z β ρ U r, RepS X.prog X.w X.K Z β ρ σ' ∧ Rel X.prog X.w X.K X.mg Φ Z β U H' ∧ whileGo (evB C a) (execs C ss) m ρ U = some r ∧ OutS X.prog X.w X.K X.mg W Φ Z β E r, fun σ' H' q => ⟨m, Nat.lt_succ_self m, q⟩, ?_⟩
      cases q : execs C ss ρ U1 with
      | none => rw [q] at h1; cases h1
      | some r1 =>
        rw [q] at h1
        refine ⟨Φ, Z1, β1, ρ, U1, r1, S1, R1, q, ?_⟩
        cases r1 with
        | nx ρ2 U2 => exact fun Z2 β2 H2 σ2 z2 b2 R2 S2 => ⟨Φ, Z2, β2, ρ2, U2, r, S2, R2, h1, o1.mono z2 b2⟩
        | rt d U2 => cases h1; exact o1
        | bk ρ2 U2 => cases h1; exact o1
        | ex x ρ2 U2 => cases h1; exact o1
end
end VI

/-! VIc5: targets, assignments. -/
namespace VI
open PySem PySem.Spec PyProof.Rows L2
theorem wipe_set {i : Nat} {x : Option V} (σ : L2.St) : ∀ {vs : List Nat}, i ∈ vs → L2.wipe (σ.set i x) vs = L2.wipe σ vs
  | v :: vs, h => by
    unfold L2.wipe
    by_cases hi : i ∈ vs
    · rw [wipe_set σ hi]
    · have hv : v = i := by
        rcases List.mem_cons.mp h with h | h
        · exact h.symm
        · exact absurd h hi
      subst hv
      refine List.ext_getElem? fun j => ?_
      by_cases hj : v = j
      · subst hj
        by_cases hl : v < σ.length
        · rw [List.getElem?_set_self (by rw [L2.wipe_length, List.length_set]; exact hl), List.getElem?_set_self (by rw [L2.wipe_length]; exact hl)]
        · rw [List.getElem?_eq_none (by rw [List.length_set, L2.wipe_length, List.length_set]; omega), List.getElem?_eq_none (by rw [List.length_set, L2.wipe_length]; omega)]
      · rw [List.getElem?_set_ne hj, List.getElem?_set_ne hj]
        by_cases hm : j ∈ vs
        · have e : ∀ (τ : L2.St), (L2.wipe τ vs)[j]? = if j < τ.length then some none else none := by
            intro τ
            by_cases hl : j < τ.length
            · rw [if_pos hl]
              cases q : (L2.wipe τ vs)[j]? with
              | none =>
                rw [List.getElem?_eq_none_iff, L2.wipe_length] at q
                omega
              | some o =>
                cases o with
                | none => rfl
                | some y => exact absurd hm (L2.wipe_some q).2
            · rw [if_neg hl, List.getElem?_eq_none (by rw [L2.wipe_length]; omega)]
          rw [e, e, List.length_set]
        · rw [L2.wipe_out hm, L2.wipe_out hm, List.getElem?_set_ne hj]
/-- the slots of a target -/
def Tg.slots : Tg → List Nat
  | .var i => [i]
  | .tup is => is
  | .tup2 a bs => a :: bs
section
variable {X : Cx} {C : Cal} {W : WX} {e e1 e2 e3 : Expr} {a b c : IE} {pos p : Pos} {st : Stmt} {sts sts2 : List Stmt} {s : IS} {ss ss2 : ISs}
/-- what is wanted of an assignment to a target -/
def xG (P : Program) (w : World) (K : PySem.W.Frag) (mg : Str → Option Value) (tg : Tg) : TG := fun v σ H Q => ∃ Φ Z β U d ρ ρ', RepS P w K Z β ρ σ ∧ Rel P w K mg Φ Z β U H ∧ RepV P w K Z β d v ∧ asgT U tg d ρ = some ρ' ∧
  ∀ σ', RepS P w K Z β ρ' σ' → (∀ vs : List Nat, (∀ i ∈ tg.slots, i ∈ vs) → L2.wipe σ' vs = L2.wipe σ vs) → Q σ' H
/-- .. to names -/
def xGs (P : Program) (w : World) (K : PySem.W.Frag) (mg : Str → Option Value) (is : List Nat) : TGs := fun vs σ H Q => ∃ Φ Z β U ds ρ ρ', RepS P w K Z β ρ σ ∧ Rel P w K mg Φ Z β U H ∧ RepL P w K Z β ds vs ∧ setAll ρ is ds = some ρ' ∧
  ∀ σ', RepS P w K Z β ρ' σ' → (∀ vs : List Nat, (∀ i ∈ is, i ∈ vs) → L2.wipe σ' vs = L2.wipe σ vs) → Q σ' H
/-- a name that may be set -/
structure Sets (X : Cx) (i : Nat) (x : Str) : Prop where
  nd : X.N.Nodup
  at_ : X.N[i]? = some x
  loc : Loc X.env.scope x
  fn : X.fn x = true ∨ X.env.scope.names.lookup x = some .local
theorem g_var {i : Nat} {x : Str} (h : Sets X i x) : PG X (.Name x pos) (xG X.prog X.w X.K X.mg (.var i)) := by
  refine ⟨fun pins s σ H v u Q I r ⟨Φ, Z, β, U, d, ρ, ρ', S, R, rd, e, k⟩ => (pg_name h.nd h.at_ h.loc h.fn).run pins s σ H v u Q I r ?_⟩
  cases e
  exact k _ (S.set rd) fun vs hv => wipe_set σ (hv i (by simp [Tg.slots]))
theorem gs_nil : PGs X [] (xGs X.prog X.w X.K X.mg []) := by
  refine ⟨fun pins s σ H vs us Q I r ⟨Φ, Z, β, U, ds, ρ, ρ', S, R, rd, e, k⟩ => pgs_nil.run pins s σ H vs us Q I r ?_⟩
  cases ds with
  | nil =>
    cases e
    simp only [RepL] at rd
    exact ⟨rd, k σ S fun _ _ => rfl⟩
  | cons _ _ => cases e
theorem gs_cons {i : Nat} {x : Str} {is : List Nat} {es : List Expr} (h : Sets X i x) (h2 : PGs X es (xGs X.prog X.w X.K X.mg is)) : PGs X (.Name x pos :: es) (xGs X.prog X.w X.K X.mg (i :: is)) := by
  refine ⟨fun pins s σ H vs us Q I r ⟨Φ, Z, β, U, ds, ρ, ρ', S, R, rd, e, k⟩ => (pgs_cons (pg_name h.nd h.at_ h.loc h.fn) h2).run pins s σ H vs us Q I r ?_⟩
  cases ds with
  | nil => cases e
  | cons d ds =>
    simp only [RepL] at rd
    obtain ⟨v, s, rfl, r1, r2⟩ := rd
    refine ⟨v, s, rfl, Φ, Z, β, U, ds, _, ρ', S.set r1, R, r2, e, fun σ' S' hw => k σ' S' fun vs hv => ?_⟩
    rw [hw vs fun j hj => hv j (by simp [hj])]
    exact wipe_set σ (hv i (by simp))
/-- names alone -/
def names (es : List Expr) : Bool := es.all fun e => match e with | .Name _ _ => true | _ => false
theorem names_each : ∀ {es : List Expr} {env : Env}, names es = true → (assignEach es env).length = es.length ∧ (assignEach es env).findIdx? (·.1) = none
  | [], _, _ => ⟨rfl, rfl⟩
  | e :: r, env, h => by
    simp only [names, List.all_cons, Bool.and_eq_true] at h
    have ih := names_each (env := env) (es := r) h.2
    cases e <;> first
      | (cases h.1; done)
      | (refine ⟨?_, ?_⟩
         · show (assignEach r env).length + 1 = _
           rw [ih.1]
           rfl
         · show List.findIdx? (·.1) ((false, _) :: assignEach r env) = none
           rw [List.findIdx?_cons]
           simp [ih.2])
/-- unpacking a tuple or a list -/
theorem pg_seq {es : List Expr} {k : Nat} {t : TGs} {n : Nat} (hc : X.calm = true) (h : PGs X es t) (hn : (assignEach es X.env).length = n) (hst : (assignEach es X.env).findIdx? (·.1) = none) :
    PG X (.Tuple es k pos) (fun v σ H Q => ∃ a xs, v = .ref a ∧ (SqL X.K H a xs ∨ SqT X.K H a xs) ∧ xs.length = n ∧ t xs σ H Q) := by
  refine ⟨fun pins s σ H v u Q I r ⟨a, xs, e, hq, hl, q⟩ => ?_⟩
  rcases hq with hq | hq
  · exact (pg_lst hc h hn hst).run pins s σ H v u Q I r ⟨a, xs, e, hq, hl, q⟩
  · exact (pg_tup hc h hn hst).run pins s σ H v u Q I r ⟨a, xs, e, hq, hl, q⟩
theorem setAll_len : ∀ {is : List Nat} {ds : List D} {ρ ρ' : Rho}, setAll ρ is ds = some ρ' → ds.length = is.length
  | [], [], _, _, _ => rfl
  | i :: is, d :: ds, ρ, ρ', h => by
    have := setAll_len (show setAll (ρ.set i (some d)) is ds = some ρ' from h)
    simp [this]
  | [], _ :: _, _, _, h => by cases h
  | _ :: _, [], _, _, h => by cases h
theorem g_tup {es : List Expr} {k : Nat} {is : List Nat} (hc : X.calm = true) (hn : names es = true) (hl : es.length = is.length) (h : PGs X es (xGs X.prog X.w X.K X.mg is)) : PG X (.Tuple es k pos) (xG X.prog X.w X.K X.mg (.tup is)) := by
  refine ⟨fun pins s σ H v u Q I r ⟨Φ, Z, β, U, d, ρ, ρ', S, R, rd, e, k⟩ => (pg_seq hc h (names_each hn).1 (names_each hn).2).run pins s σ H v u Q I r ?_⟩
  simp only [asgT] at e
  split at e
  · rename_i ds hq
    obtain ⟨p, vs, rfl, sq, q⟩ := R.seq hq rd
    exact ⟨p, vs, rfl, sq, by rw [← q.length, setAll_len e, hl], Φ, Z, β, U, ds, ρ, ρ', S, R, q, e, k⟩
  · cases e
/-- a, (b, ..) = -/
theorem g_tup2 {es : List Expr} {k k2 : Nat} {i : Nat} {x : Str} {is : List Nat} {p1 p2 : Pos} (hc : X.calm = true) (hx : Sets X i x) (hn : names es = true) (hl : es.length = is.length) (h : PGs X es (xGs X.prog X.w X.K X.mg is)) :
    PG X (.Tuple [.Name x p1, .Tuple es k2 p2] k pos) (xG X.prog X.w X.K X.mg (.tup2 i is)) := by
  have ht : PG X (.Tuple es k2 p2) _ := pg_seq hc h (names_each hn).1 (names_each hn).2
  refine ⟨fun pins s σ H v u Q I r ⟨Φ, Z, β, U, d, ρ, ρ', S, R, rd, e, k⟩ => (pg_tup hc (pgs_cons (pg_name hx.nd hx.at_ hx.loc hx.fn) (pgs_cons ht pgs_nil)) (n := 2)).run pins s σ H v u Q I r ?_⟩
  simp only [asgT] at e
  split at e
  · rename_i d1 d2
    split at e
    · rename_i ds hq
      obtain ⟨a, vs, rfl, sq, q⟩ := R.tuple rd
      simp only [RepL] at q
      obtain ⟨v1, s1, rfl, r1, v2, s2, rfl, r2, rfl⟩ := q
      obtain ⟨p, ws, rfl, sq2, q2⟩ := R.seq hq r2
      refine ⟨a, _, rfl, sq, rfl, v1, _, rfl, _, _, rfl, p, ws, rfl, sq2, by rw [← q2.length, setAll_len e, hl], Φ, Z, β, U, ds, _, ρ', S.set r1, R, q2, e, fun σ' S' hw => ⟨rfl, k σ' S' fun vs hv => ?_⟩⟩
      rw [hw vs fun j hj => hv j (by simp [Tg.slots, hj])]
      exact wipe_set σ (hv i (by simp [Tg.slots]))
    · cases e
  · cases e
/-! ### assignments -/
theorem s_set {i : Nat} {x : Str} (h : Sets X i x) (hn : noComp e = true) (ha : PE X e (xE X C W a)) : PS X (.Assign [.Name x p] e pos) (xS X C W (.asg (.var i) a)) := by
  refine (ps_set h.nd h.at_ h.loc ha (swaps_no hn _ _ _) h.fn).imp fun E σ H ⟨Φ, Z, β, ρ, U, r, S, R, h, o⟩ => ?_
  rw [exec] at h
  refine tE_bndS S R h o fun Z1 β1 H1 d v U1 z1 b1 R1 r1 S1 h1 o1 => ?_
  simp only [asgT] at h1
  cases h1
  exact o1 Z1 β1 H1 _ (ZLe.refl _) (BLe.refl _) R1 (S1.set r1)
def noTup : Expr → Bool
  | .Tuple _ _ _ => false
  | _ => true
theorem stores_no {e : Expr} (h : noTup e = true) (t : Expr) (env : Env) : swappedStores [t] e env = pure none := by
  unfold swappedStores
  cases e <;> first
    | (cases h; done)
    | (cases t <;> rfl)
theorem swaps_tup {es : List Expr} {k : Nat} {p : Pos} (e : Expr) (l : Nat) (env : Env) : swapsWithSole [.Tuple es k p] e l env = pure false := by
  show swapsWith e (some (.Tuple es k p)) l env = pure false
  cases e <;> rfl
theorem s_asgT {es : List Expr} {k : Nat} {tg : Tg} (ht : noTup e = true) (ha : PE X e (xE X C W a)) (hg : PG X (.Tuple es k p) (xG X.prog X.w X.K X.mg tg)) : PS X (.Assign [.Tuple es k p] e pos) (xS X C W (.asg tg a)) := by
  refine (ps_asg ha hg (swaps_tup _ _ _) (stores_no ht _ _) rfl).imp fun E σ H ⟨Φ, Z, β, ρ, U, r, S, R, h, o⟩ => ?_
  rw [exec] at h
  refine tE_bndS S R h o fun Z1 β1 H1 d v U1 z1 b1 R1 r1 S1 h1 o1 => ?_
  split at h1
  · rename_i ρ' e1
    cases h1
    exact ⟨Φ, Z1, β1, U1, d, ρ, ρ', S1, R1, r1, e1, fun σ' S' _ => o1 Z1 β1 H1 σ' (ZLe.refl _) (BLe.refl _) R1 S'⟩
  · cases h1
theorem s_aug {i : Nat} {x : Str} {op : BOp} (hop : op = .add ∨ op = .sub) (h : Sets X i x) (ha : PE X e (xE X C W a)) : PS X (.AugAssign (.Name x p) (bop op) e pos) (xS X C W (.aug i op a)) := by
  rcases hop with rfl | rfl
  · refine (ps_aug h.nd h.at_ h.loc ha ip_add h.fn).imp fun E σ H ⟨Φ, Z, β, ρ, U, r, S, R, h, o⟩ => ?_
    rw [exec] at h
    split at h
    · rename_i x0 hx
      obtain ⟨v0, e0, r0⟩ := S.2 i x0 hx
      refine ⟨v0, e0, tE_bndS S R h o fun Z1 β1 H1 d v U1 z1 b1 R1 r1 S1 h1 o1 => ?_⟩
      split at h1
      · rename_i n m
        cases h1
        simp only [RepV] at r0 r1
        refine ⟨n, m, r0, r1, o1 Z1 β1 H1 _ (ZLe.refl _) (BLe.refl _) R1 (S1.set (by simp only [RepV]))⟩
      · cases h1
    · cases h
  · refine (ps_aug h.nd h.at_ h.loc ha ip_sub h.fn).imp fun E σ H ⟨Φ, Z, β, ρ, U, r, S, R, h, o⟩ => ?_
    rw [exec] at h
    split at h
    · rename_i x0 hx
      obtain ⟨v0, e0, r0⟩ := S.2 i x0 hx
      refine ⟨v0, e0, tE_bndS S R h o fun Z1 β1 H1 d v U1 z1 b1 R1 r1 S1 h1 o1 => ?_⟩
      split at h1
      · rename_i n m
        cases h1
        simp only [RepV] at r0 r1
        refine ⟨n, m, r0, r1, o1 Z1 β1 H1 _ (ZLe.refl _) (BLe.refl _) R1 (S1.set (by simp only [RepV]))⟩
      · cases h1
    · cases h
end
end VI

/-! VIc6: what is walked: for, comprehensions. -/
namespace VI
open PySem PySem.Spec PyProof.Rows L2
/-- the iterator J yields what src says -/
structure WalkV (P : Program) (w : World) (K : PySem.W.Frag) (mg : Str → Option Value) (Z : Hp) (β : List Addr) (J : L2.It) (src : Src) : Prop where
  go : ∀ (i : Nat) (g : Store → Option D), src.get[i]? = some g → ∀ (Φ : List (Addr × HO)) (Z' : Hp) (β' : List Addr) (U : Store) (H : Hp) (x : D), ZLe Z Z' → BLe β β' → Rel P w K mg Φ Z' β' U H → g U = some x →
    J.go i H ∧ ∀ v H', J.yld i H v H' → ∃ Z'', ZLe Z' Z'' ∧ Rel P w K mg Φ Z'' β' U H' ∧ RepV P w K Z'' β' x v
  stop : ∀ (Φ : List (Addr × HO)) (Z' : Hp) (β' : List Addr) (U : Store) (H : Hp), ZLe Z Z' → BLe β β' → Rel P w K mg Φ Z' β' U H → src.fin U = true → J.stop src.get.length H
theorem WalkV.mono {P : Program} {w : World} {K : PySem.W.Frag} {mg : Str → Option Value} {Z Z' : Hp} {β β' : List Addr} {J : L2.It} {src : Src} (h : WalkV P w K mg Z β J src) (z : ZLe Z Z') (b : BLe β β') : WalkV P w K mg Z' β' J src :=
  ⟨fun i g e Φ Z2 β2 U H x z2 b2 => h.go i g e Φ Z2 β2 U H x (z.trans z2) (b.trans b2), fun Φ Z2 β2 U H z2 b2 => h.stop Φ Z2 β2 U H (z.trans z2) (b.trans b2)⟩
def DoneW (P : Program) (w : World) (K : PySem.W.Frag) (mg : Str → Option Value) (Φ : List (Addr × HO)) (Z : Hp) (β : List Addr) (src : Src) (U' : Store) (R : L2.It → Hp → Prop) : Prop :=
  ∀ (Z' : Hp) (β' : List Addr) (H' : Hp) (J : L2.It), ZLe Z Z' → BLe β β' → Rel P w K mg Φ Z' β' U' H' → WalkV P w K mg Z' β' J src → R J H'
theorem DoneW.mono {P : Program} {w : World} {K : PySem.W.Frag} {mg : Str → Option Value} {Φ : List (Addr × HO)} {Z Z' : Hp} {β β' : List Addr} {src : Src} {U' : Store} {R : L2.It → Hp → Prop} (h : DoneW P w K mg Φ Z β src U' R) (z : ZLe Z Z') (b : BLe β β') : DoneW P w K mg Φ Z' β' src U' R :=
  fun Z2 β2 H2 J z2 b2 => h Z2 β2 H2 J (z.trans z2) (b.trans b2)
def tI (P : Program) (w : World) (K : PySem.W.Frag) (mg : Str → Option Value) (C : Cal) (W : WX) (it : VI.It) : TI := fun σ H R => ∃ Φ Z β ρ U r, RepS P w K Z β ρ σ ∧ Rel P w K mg Φ Z β U H ∧ evIt C it ρ U = some r ∧
  Out P w K mg W Φ Z β σ (fun src U' => DoneW P w K mg Φ Z β src U' R) r
section
variable {X : Cx} {C : Cal} {W : WX} {e e1 e2 e3 : Expr} {a b c : IE} {pos p : Pos} {st : Stmt} {sts sts2 : List Stmt} {s : IS} {ss ss2 : ISs} {it : VI.It} {tg : Expr}
abbrev xI (X : Cx) (C : Cal) (W : WX) (it : VI.It) : TI := tI X.prog X.w X.K X.mg C W it
theorem s_for {iter : Expr} {t : Tg} (hp : PassesOwn (model X.prog X.w) X.A X.env X.xe) (hc : X.calm = true) (ht : tame iter = true) (hi : PI X tg iter (xI X C W it)) (hg : PG X tg (xG X.prog X.w X.K X.mg t)) (hb : PSs X sts (xSs X C W ss)) :
    PS X (.For tg iter sts [] pos) (xS X C W (.forS t it ss)) := by
  refine (ps_for hp hc hi hg hb (fold_tame ht _)).imp fun E σ H ⟨Φ, Z, β, ρ, U, r, S, R, h, o⟩ => ?_
  rw [exec] at h
  cases q : evIt C it ρ U with
  | none => rw [q] at h; cases h
  | some r1 =>
    rw [q] at h
    refine ⟨Φ, Z, β, ρ, U, r1, S, R, q, ?_⟩
    cases r1 with
    | ex x U1 =>
      cases h
      exact o Z β σ (ZLe.refl _) (BLe.refl _) S
    | ok src U1 =>
      rw [bndS_ok] at h
      intro Z1 β1 H1 J z1 b1 R1 wk
      refine ⟨fun i m σ H => ∃ Φ Z β ρ U r, WalkV X.prog X.w X.K X.mg Z β J src ∧ RepS X.prog X.w X.K Z β ρ σ ∧ Rel X.prog X.w X.K X.mg Φ Z β U H ∧ forGo src.fin (turnF t (execs C ss)) (src.get.drop i) ρ U = some r ∧ OutS X.prog X.w X.K X.mg W Φ Z β E r ∧ m = src.get.length - i ∧ i ≤ src.get.length, ⟨src.get.length, Φ, Z1, β1, ρ, U1, r, wk, S.mono z1 b1, R1, by rw [List.drop_zero]; exact h, o.mono z1 b1, by simp, Nat.zero_le _⟩, ?_⟩
      rintro i m σ H ⟨Φ, Z, β, ρ, U, r, wk, S, R, h, o, rfl, hi⟩
      by_cases hl : i < src.get.length
      · rw [List.drop_eq_getElem_cons hl, forGo] at h
        split at h
        · rename_i x hx
          obtain ⟨go, yl⟩ := wk.go i _ (List.getElem?_eq_getElem hl) Φ Z β U H x (ZLe.refl _) (BLe.refl _) R hx
          refine .inr ⟨go, fun σ' H' => ∃ Φ Z β ρ U r, WalkV X.prog X.w X.K X.mg Z β J src ∧ RepS X.prog X.w X.K Z β ρ σ' ∧ Rel X.prog X.w X.K X.mg Φ Z β U H' ∧ forGo src.fin (turnF t (execs C ss)) (src.get.drop (i + 1)) ρ U = some r ∧ OutS X.prog X.w X.K X.mg W Φ Z β E r, fun σ' H' q => ⟨src.get.length - (i + 1), by omega, ?_⟩, fun v H' y => ?_⟩
          · obtain ⟨Φ, Z, β, ρ, U, r, wk, S, R, h, o⟩ := q
            exact ⟨Φ, Z, β, ρ, U, r, wk, S, R, h, o, rfl, hl⟩
          · obtain ⟨Z2, z2, R2, r2⟩ := yl v H' y
            unfold turnF at h
            cases ha : asgT U t x ρ with
            | none =>
              rw [ha] at h
              cases h
            | some ρ2 =>
              rw [ha] at h
              refine ⟨Φ, Z2, β, U, x, ρ, ρ2, S.mono z2 (BLe.refl _), R2, r2, ha, fun σ' S' _ => ?_⟩
              cases q : execs C ss ρ2 U with
              | none => simp only [q] at h; cases h
              | some r1 =>
                simp only [q] at h
                refine ⟨Φ, Z2, β, ρ2, U, r1, S', R2, q, ?_⟩
                have o2 := o.mono z2 (BLe.refl β)
                cases r1 with
                | nx ρ3 U3 => exact fun Z3 β3 H3 σ3 z3 b3 R3 S3 => ⟨Φ, Z3, β3, ρ3, U3, r, wk.mono (z2.trans z3) b3, S3, R3, h, o2.mono z3 b3⟩
                | rt d U3 => cases h; exact o2
                | bk ρ3 U3 => cases h; exact o2
                | ex x ρ3 U3 => cases h; exact o2
        · cases h
      · have e : i = src.get.length := by omega
        subst e
        rw [List.drop_length, forGo] at h
        split at h
        · rename_i hf
          cases h
          exact .inl ⟨wk.stop Φ Z β U H (ZLe.refl _) (BLe.refl _) R hf, o Z β H σ (ZLe.refl _) (BLe.refl _) R S⟩
        · cases h
/-! ### comprehensions -/
theorem wipe_wipe (σ : L2.St) {vs : List Nat} : ∀ us : List Nat, (∀ i ∈ us, i ∈ vs) → L2.wipe (L2.wipe σ us) vs = L2.wipe σ vs
  | [], _ => rfl
  | u :: us, h => by
    show L2.wipe ((L2.wipe σ us).set u none) vs = _
    rw [wipe_set _ (h u (by simp)), wipe_wipe σ us fun i hi => h i (by simp [hi])]
def put? (o : Option D) (ds : List D) : List D := match o with
  | some d => d :: ds
  | none => ds
theorem lcGo_cons (turn : D → M (Option D)) (g : Store → Option D) (gs : List (Store → Option D)) (U : Store) : lcGo turn (g :: gs) U = (match g U with
  | some x => bnd (turn x U) fun o U1 => bnd (lcGo turn gs U1) fun ds U2 => ret (put? o ds) U2
  | none => none) := rfl
/-- a comprehension's tests: none, or one -/
theorem pts_xT {ifs : List Expr} {c : IE} (h : (ifs = [] ∧ c = .cst (.bl true)) ∨ ∃ e, ifs = [e] ∧ PT X e (xT X C W c)) : PTs X ifs (xT X C W c) := by
  rcases h with ⟨rfl, rfl⟩ | ⟨e, rfl, h⟩
  · refine ⟨fun pins s σ H Q I ⟨Φ, Z, β, ρ, U, r, S, R, h, o⟩ => pts_nil.run pins s σ H Q I ?_⟩
    rw [evB] at h
    cases h
    exact o.ok Z β H (ZLe.refl _) (BLe.refl _) R
  · exact pts_one h
theorem n_lc {elt iter : Expr} {ifs : List Expr} {scope : Scope} {own : List (Str × Nat)} {m : Bool} {t : Tg} {cd el : IE} (hc : X.calm = true) (hN : X.N.Nodup) (ht : tame iter = true) (hi : PI X tg iter (xI X C W it)) (ok : BlkOk X.N X.env.scope scope own) (hs : ∀ i ∈ t.slots, i ∈ own.map (·.2))
    (hg : ∀ (s : Shared) (H : Hp) (A : Addr) (cl : List (Str × Addr)) (fp : List Addr), PG (X.blk s H scope (compEnvC scope cl A X.env) fp) tg (xG X.prog X.w X.K X.mg t))
    (hcd : ∀ (s : Shared) (H : Hp) (A : Addr) (cl : List (Str × Addr)) (fp : List Addr), PTs (X.blk s H scope (compEnvC scope cl A X.env) fp) ifs (tT X.prog X.w X.K X.mg C (fun _ _ _ _ => False) cd))
    (hel : ∀ (s : Shared) (H : Hp) (A : Addr) (cl : List (Str × Addr)) (fp : List Addr), PE (X.blk s H scope (compEnvC scope cl A X.env) fp) elt (tE X.prog X.w X.K X.mg C (fun _ _ _ _ => False) el)) :
    ∀ σ H Q, xE X C W (.lc m (own.map (·.2)) t it cd el) σ H Q → tLc (xI X C W it) (xG X.prog X.w X.K X.mg t) (tT X.prog X.w X.K X.mg C (fun _ _ _ _ => False) cd) (tE X.prog X.w X.K X.mg C (fun _ _ _ _ => False) el) (own.map (·.2)) σ H Q := by
  intro σ H Q ⟨Φ, Z, β, ρ, U, r, S, R, h, o⟩
  rw [ev] at h
  cases q : evIt C it ρ U with
  | none => rw [q] at h; cases h
  | some r1 =>
    rw [q] at h
    refine ⟨Φ, Z, β, ρ, U, r1, S, R, q, ?_⟩
    cases r1 with
    | ex x U1 =>
      cases h
      exact o
    | ok src U1 =>
      rw [bnd_ok] at h
      split at h
      · cases h
      rename_i hsz
      intro Z1 β1 H1 J z1 b1 R1 wk Dd hD
      generalize hturn : turnL t (evB C cd) (ev C el) (VI.wipe ρ (own.map (·.2))) = turn at h
      have o1 := o.monoE z1 b1
      have S1 := S.mono z1 b1
      refine ⟨fun i m' H => ∃ Z β U vs ds rest U', ZLe Z1 Z ∧ BLe β1 β ∧ Rel X.prog X.w X.K X.mg ((Dd, .lst vs) :: Φ) Z β U H ∧ RepL X.prog X.w X.K Z β ds vs ∧ lcGo turn (src.get.drop i) U = some (.ok rest U') ∧
        (if src.fin U' then mkL m (ds ++ rest) U' else none) = some r ∧ m' = src.get.length - i ∧ i ≤ src.get.length ∧ ds.length ≤ i, ?_, ?_⟩
      · cases ql : lcGo turn src.get U1 with
        | none => rw [ql] at h; cases h
        | some r2 =>
          rw [ql] at h
          cases r2 with
          | ex x U2 =>
            -- a turn raises nothing
            have nox : ∀ (gs : List (Store → Option D)) (V : Store) (x : Ex) (V' : Store), lcGo turn gs V = some (.ex x V') → False := by
              intro gs
              induction gs with
              | nil => intro V x V' q; cases q
              | cons g gs ih =>
                intro V x V' q
                rw [lcGo_cons] at q
                split at q
                · rename_i y hy
                  have hn : ∀ x' V'', turn y V ≠ some (.ex x' V'') := by
                    intro x' V'' z
                    rw [← hturn] at z
                    simp only [turnL, noEx] at z
                    split at z <;> cases z
                  cases q2 : turn y V with
                  | none => rw [q2] at q; cases q
                  | some r3 =>
                    rw [q2] at q
                    cases r3 with
                    | ex x' V'' => exact hn _ _ q2
                    | ok oo V1 =>
                      rw [bnd_ok] at q
                      cases q3 : lcGo turn gs V1 with
                      | none => rw [q3] at q; cases q
                      | some r4 =>
                        rw [q3] at q
                        cases r4 with
                        | ex x' V'' => exact ih V1 x' V'' q3
                        | ok ds V2 => cases q
                · cases q
            exact (nox _ _ _ _ ql).elim
          | ok rest U2 =>
            rw [bnd_ok] at h
            exact ⟨src.get.length, Z1, β1, U1, [], [], rest, U2, ZLe.refl _, BLe.refl _, R1.aside hD _, RepL.nil, by rw [List.drop_zero]; exact ql, h, by simp, Nat.zero_le _, by simp⟩
      · rintro i m' H2 ⟨Z2, β2, U2, vs, ds, rest, U', z2, b2, R2, q2, hgo, hfin, rfl, hi, hds⟩
        have hΦ : ∀ q ∈ Φ, q.1 ≠ Dd := fun q hq e => by
          have := (R1.ext q hq).1
          rw [e, hD] at this
          cases this
        by_cases hl : i < src.get.length
        · rw [List.drop_eq_getElem_cons hl, lcGo_cons] at hgo
          split at hgo
          · rename_i x hx
            obtain ⟨go, yl⟩ := wk.go i _ (List.getElem?_eq_getElem hl) _ Z2 β2 U2 H2 x z2 b2 R2 hx
            refine .inr ⟨go, fun H' => ∃ Z β U vs ds rest U', ZLe Z1 Z ∧ BLe β1 β ∧ Rel X.prog X.w X.K X.mg ((Dd, .lst vs) :: Φ) Z β U H' ∧ RepL X.prog X.w X.K Z β ds vs ∧ lcGo turn (src.get.drop (i + 1)) U = some (.ok rest U') ∧
              (if src.fin U' then mkL m (ds ++ rest) U' else none) = some r ∧ ds.length ≤ i + 1, fun H' q => ⟨src.get.length - (i + 1), by omega, ?_⟩, fun v H' y => ?_⟩
            · obtain ⟨Z, β, U, vs, ds, rest, U', c1, c2, c3, c4, c5, c6, c7⟩ := q
              exact ⟨Z, β, U, vs, ds, rest, U', c1, c2, c3, c4, c5, c6, rfl, hl, c7⟩
            · obtain ⟨Z3, z3, R3, r3⟩ := yl v H' y
              have ht : turn x U2 = noEx (match asgT U2 t x (VI.wipe ρ (own.map (·.2))) with
                | some ρ2 => bnd (evB C cd ρ2 U2) fun k V1 => if k then bnd (ev C el ρ2 V1) fun d V2 => ret (some d) V2 else ret none V1
                | none => none) := by rw [← hturn]; rfl
              rw [ht] at hgo
              cases ha : asgT U2 t x (VI.wipe ρ (own.map (·.2))) with
              | none => rw [ha] at hgo; cases hgo
              | some ρ2 =>
                rw [ha] at hgo
                simp only at hgo
                refine ⟨_, Z3, β2, U2, x, _, ρ2, ((S1.mono z2 b2).mono z3 (BLe.refl _)).wipe _, R3, r3, ha, fun σ' S' hw => ⟨(hw _ hs).trans (wipe_wipe σ _ fun i hi => hi), ?_⟩⟩
                cases qb : evB C cd ρ2 U2 with
                | none => rw [qb] at hgo; cases hgo
                | some rb =>
                  rw [qb] at hgo
                  cases rb with
                  | ex x' V' => cases hgo
                  | ok k V1 =>
                    refine ⟨_, Z3, β2, ρ2, U2, _, S', R3, qb, fun Z4 β4 H4 z4 b4 R4 => ?_⟩
                    rw [bnd_ok] at hgo
                    cases k with
                    | false =>
                      simp only [Bool.false_eq_true, if_false, ret_eq, noEx_ok, bnd_ok] at hgo ⊢
                      refine ⟨Z4, β4, V1, vs, ds, rest, U', (z2.trans z3).trans z4, b2.trans b4, R4, q2.mono (z3.trans z4) b4, ?_, hfin, by omega⟩
                      cases ql : lcGo turn (src.get.drop (i + 1)) V1 with
                      | none => rw [ql] at hgo; cases hgo
                      | some r4 =>
                        rw [ql] at hgo
                        cases r4 with
                        | ex x' V' => cases hgo
                        | ok dd V2 => cases hgo; rfl
                    | true =>
                      simp only [if_true] at hgo ⊢
                      cases qe : ev C el ρ2 V1 with
                      | none => rw [qe] at hgo; cases hgo
                      | some re =>
                        rw [qe] at hgo
                        cases re with
                        | ex x' V' => cases hgo
                        | ok d V2 =>
                          refine ⟨_, Z4, β4, ρ2, V1, _, S'.mono z4 b4, R4, qe, fun Z5 β5 H5 v5 z5 b5 R5 r5 => ?_⟩
                          simp only [bnd_ok, ret_eq, noEx_ok] at hgo
                          have z25 : ZLe Z2 Z5 := (z3.trans z4).trans z5
                          have q5 := q2.mono z25 (b4.trans b5)
                          have hacc := (R5.ext (Dd, .lst vs) (by simp)).1
                          refine ⟨vs, hacc, ?_, Z5, β5, V2, vs ++ [v5], ds ++ [d], ?_⟩
                          · rw [← q2.length, ← SZ_eq]
                            omega
                          · cases ql : lcGo turn (src.get.drop (i + 1)) V2 with
                            | none => rw [ql] at hgo; cases hgo
                            | some r4 =>
                              rw [ql] at hgo
                              cases r4 with
                              | ex x' V' => cases hgo
                              | ok dd V3 =>
                                simp only [bnd_ok, ret_eq, put?] at hgo
                                obtain ⟨rfl, rfl⟩ := ok_inj hgo
                                refine ⟨dd, V3, z2.trans z25, (b2.trans b4).trans b5, R5.aside2 hΦ _, q5.append (RepL.cons r5 RepL.nil), rfl, ?_, by simp; omega⟩
                                rw [List.append_assoc]
                                exact hfin
          · cases hgo
        · have e : i = src.get.length := by omega
          subst e
          rw [List.drop_length] at hgo
          obtain ⟨rfl, rfl⟩ := ok_inj (show some (VI.R.ok [] U2) = some (VI.R.ok rest U') from hgo)
          split at hfin
          · rename_i hf
            refine .inl ⟨wk.stop _ Z2 β2 U2 H2 z2 b2 R2 hf, ?_⟩
            rw [List.append_nil] at hfin
            have o2 := o1.monoE z2 b2
            obtain ⟨h1, hz, hb⟩ := R2.ext (Dd, .lst vs) (by simp)
            unfold mkL at hfin
            split at hfin
            · cases hfin
              obtain ⟨R3, b3⟩ := R2.adopt hΦ (o := .lst ds) ⟨vs, h1, q2.mono (ZLe.refl _) ⟨[Dd], rfl⟩⟩
              refine o2.ok Z2 _ H2 (.ref Dd) (ZLe.refl _) b3 R3 ?_
              simp only [RepV]
              exact ⟨Dd, rfl, by rw [← R2.len]; simp⟩
            · cases hfin
              obtain ⟨R3, z3⟩ := R2.settle hΦ
              refine o2.ok _ β2 H2 (.ref Dd) z3 (BLe.refl _) R3 ?_
              simp only [RepV]
              exact ⟨Dd, vs, rfl, .inl (.inl L2.upd_same), q2.mono z3 (BLe.refl _)⟩
          · cases hfin
end
end VI

/-! VIc7: the kinds of walks. -/
namespace VI
open PySem PySem.Spec PyProof.Rows L2
section
variable {P : Program} {w : World} {K : PySem.W.Frag} {mg : Str → Option Value} {Φ : List (Addr × HO)} {Z Z' : Hp} {β β' : List Addr} {U : Store} {H : Hp}
/-- a list or a tuple as it stands: its items -/
theorem lst_at (r : RepV P w K Z β (.lst xs) (.ref a)) : ∃ vs, SqL K Z a vs ∧ RepL P w K Z β xs vs := by
  simp only [RepV] at r
  obtain ⟨a', vs, e, s, q⟩ := r
  cases e
  exact ⟨vs, s, q⟩
theorem tup_at (r : RepV P w K Z β (.tup xs) (.ref a)) : ∃ vs, SqT K Z a vs ∧ RepL P w K Z β xs vs := by
  simp only [RepV] at r
  obtain ⟨a', vs, e, s, q⟩ := r
  cases e
  exact ⟨vs, s, q⟩
theorem fix_get {xs : List D} {i : Nat} {g : Store → Option D} (e : (fixS xs).get[i]? = some g) : ∃ d, xs[i]? = some d ∧ ∀ U, g U = some d := by
  simp only [fixS, List.getElem?_map, Option.map_eq_some_iff] at e
  obtain ⟨d, h, rfl⟩ := e
  exact ⟨d, h, fun _ => rfl⟩
theorem live_get {n k i : Nat} {g : Store → Option D} (e : (liveS n k).get[i]? = some g) {x : D} (h : g U = some x) : ∃ ys, U[n]? = some (.lst ys) ∧ ys.length = k ∧ ys[i]? = some x := by
  simp only [liveS, List.getElem?_map, Option.map_eq_some_iff] at e
  obtain ⟨j, h1, rfl⟩ := e
  have hj : i = j := by
    by_cases hl : i < k
    · rw [List.getElem?_range hl] at h1
      exact Option.some.inj h1
    · rw [List.getElem?_eq_none (by simpa using hl)] at h1
      cases h1
  subst hj
  dsimp only at h
  split at h
  · rename_i ys hy
    split at h
    · exact ⟨ys, hy, by assumption, h⟩
    · cases h
  · cases h
theorem live_fin {n k : Nat} (h : (liveS n k).fin U = true) : ∃ ys, U[n]? = some (.lst ys) ∧ ys.length = k := by
  simp only [liveS] at h
  split at h
  · rename_i ys hy
    exact ⟨ys, hy, by simpa using h⟩
  · cases h
/-- what a list's source says, of the list at a -/
structure LstSrc (P : Program) (w : World) (K : PySem.W.Frag) (mg : Str → Option Value) (Z : Hp) (β : List Addr) (a : Addr) (src : Src) : Prop where
  get : ∀ (i : Nat) (g : Store → Option D), src.get[i]? = some g → ∀ (Φ : List (Addr × HO)) (Z' : Hp) (β' : List Addr) (U : Store) (H : Hp) (x : D), ZLe Z Z' → BLe β β' → Rel P w K mg Φ Z' β' U H → g U = some x →
    ∃ vs v, SqL K H a vs ∧ vs[i]? = some v ∧ RepV P w K Z' β' x v
  fin : ∀ (Φ : List (Addr × HO)) (Z' : Hp) (β' : List Addr) (U : Store) (H : Hp), ZLe Z Z' → BLe β β' → Rel P w K mg Φ Z' β' U H → src.fin U = true → ∃ vs, SqL K H a vs ∧ vs.length = src.get.length
theorem lstSrc {d : D} {v : V} {src : Src} (R : Rel P w K mg Φ Z β U H) (h : srcL U d = some src) (r : RepV P w K Z β d v) : ∃ a vs, v = .ref a ∧ SqL K H a vs ∧ LstSrc P w K mg Z β a src := by
  unfold srcL at h
  split at h
  · rename_i xs
    cases h
    obtain ⟨a, vs, rfl, s, q⟩ := R.list (d := .lst xs) rfl r
    obtain ⟨vs, s, q⟩ := lst_at r
    refine ⟨a, vs, rfl, SqL.le R.zle s, fun i g e Φ Z' β' U H x z b R' hg => ?_, fun Φ Z' β' U H z b R' _ => ⟨vs, SqL.le R'.zle (SqL.le z s), by simp [fixS, q.length]⟩⟩
    obtain ⟨d, e1, e2⟩ := fix_get e
    rw [e2] at hg
    cases hg
    obtain ⟨v, e3, r3⟩ := q.get e1
    exact ⟨vs, v, SqL.le R'.zle (SqL.le z s), e3, RepV.mono z b r3⟩
  · rename_i n
    split at h
    · rename_i xs hu
      cases h
      obtain ⟨a, vs, rfl, s, q⟩ := R.list (d := .ref n) (xs := xs) (by simp [asL, hu]) r
      simp only [RepV] at r
      obtain ⟨a', e, eb⟩ := r
      cases e
      have at_ : ∀ {Φ : List (Addr × HO)} {Z' : Hp} {β' : List Addr} {U : Store} {H : Hp} {ys : List D}, BLe β β' → Rel P w K mg Φ Z' β' U H → U[n]? = some (.lst ys) → ∃ vs, SqL K H a vs ∧ RepL P w K Z' β' ys vs := fun b R' hy => by
        obtain ⟨vs, e, q⟩ := R'.ref hy (b.get eb)
        exact ⟨vs, .inl (.inl e), q⟩
      refine ⟨a, vs, rfl, s, fun i g e Φ Z' β' U H x z b R' hg => ?_, fun Φ Z' β' U H z b R' hf => ?_⟩
      · obtain ⟨ys, hy, _, hx⟩ := live_get e hg
        obtain ⟨vs, s, q⟩ := at_ b R' hy
        obtain ⟨v, e3, r3⟩ := q.get hx
        exact ⟨vs, v, s, e3, r3⟩
      · obtain ⟨ys, hy, hk⟩ := live_fin hf
        obtain ⟨vs, s, q⟩ := at_ b R' hy
        exact ⟨vs, s, by simp [liveS, ← q.length, hk]⟩
    · cases h
  · cases h
theorem walk_lst {a : Addr} {src : Src} (h : LstSrc P w K mg Z β a src) : WalkV P w K mg Z β (Itl K a) src := by
  refine ⟨fun i g e Φ Z' β' U H x z b R hg => ?_, fun Φ Z' β' U H z b R hf => ?_⟩
  · obtain ⟨vs, v, s, e1, r⟩ := h.get i g e Φ Z' β' U H x z b R hg
    refine ⟨⟨vs, v, s, e1⟩, fun v' H' ⟨y1, y2⟩ => ?_⟩
    subst y1
    have := y2 vs s
    rw [e1] at this
    cases this
    exact ⟨Z', ZLe.refl _, R, r⟩
  · obtain ⟨vs, s, e1⟩ := h.fin Φ Z' β' U H z b R hf
    exact ⟨vs, s, by rw [e1]; exact Nat.le_refl _⟩
theorem walk_tup {xs : List D} {a : Addr} (r : RepV P w K Z β (.tup xs) (.ref a)) : WalkV P w K mg Z β (Itt K a) (fixS xs) := by
  obtain ⟨vs, s, q⟩ := tup_at r
  refine ⟨fun i g e Φ Z' β' U H x z b R hg => ?_, fun Φ Z' β' U H z b R hf => ?_⟩
  · obtain ⟨d, e1, e2⟩ := fix_get e
    rw [e2] at hg
    cases hg
    obtain ⟨v, e3, r3⟩ := q.get e1
    have s' := SqT.le R.zle (SqT.le z s)
    refine ⟨⟨vs, v, s', e3⟩, fun v' H' ⟨y1, y2⟩ => ?_⟩
    subst y1
    have := y2 vs s'
    rw [e3] at this
    cases this
    exact ⟨Z', ZLe.refl _, R, RepV.mono z b r3⟩
  · exact ⟨vs, SqT.le R.zle (SqT.le z s), by simp [fixS, q.length]⟩
theorem walk_str {x : Tx} : WalkV P w K mg Z β (Its ⟨x.toArray⟩) (fixS (x.map fun c => .str [c])) := by
  refine ⟨fun i g e Φ Z' β' U H y z b R hg => ?_, fun Φ Z' β' U H z b R hf => ?_⟩
  · obtain ⟨d, e1, e2⟩ := fix_get e
    rw [e2] at hg
    cases hg
    simp only [List.getElem?_map, Option.map_eq_some_iff] at e1
    obtain ⟨c, e1, rfl⟩ := e1
    have hi : i < x.length := (List.getElem?_eq_some_iff.mp e1).1
    refine ⟨by simpa [Its] using hi, fun v' H' ⟨y1, c', y2, y3⟩ => ?_⟩
    subst y1
    have : x[i]? = some c' := by simpa using y2
    rw [e1] at this
    cases this
    exact ⟨Z', ZLe.refl _, R, by simp only [RepV]; exact y3⟩
  · simp [Its, fixS]
theorem walk_range {lo hi : Int} : WalkV P w K mg Z β (Itr lo (hi - lo).toNat) (fixS (rangeL lo hi)) := by
  refine ⟨fun i g e Φ Z' β' U H y z b R hg => ?_, fun Φ Z' β' U H z b R hf => ?_⟩
  · obtain ⟨d, e1, e2⟩ := fix_get e
    rw [e2] at hg
    cases hg
    simp only [rangeL, List.getElem?_map, Option.map_eq_some_iff] at e1
    obtain ⟨k, e1, rfl⟩ := e1
    have hi : i < (hi - lo).toNat := by simpa using (List.getElem?_eq_some_iff.mp e1).1
    rw [List.getElem?_range hi] at e1
    cases e1
    refine ⟨hi, fun v' H' ⟨y1, y2⟩ => ?_⟩
    subst y1
    exact ⟨Z', ZLe.refl _, R, by simp only [RepV]; exact y2⟩
  · show (hi - lo).toNat ≤ _
    simp [fixS, rangeL]
end
section
variable {X : Cx} {C : Cal} {W : WX} {e e1 e2 e3 : Expr} {a b c : IE} {pos p tpos : Pos} {tg : Expr} {elts : List Expr} {kk : Nat}
/-- what is wanted of a walk -/
theorem tE_bndI {e : IE} {f : D → M Src} {r : VI.R Src} {Φ : List (Addr × HO)} {Z : Hp} {β : List Addr} {ρ : Rho} {σ : L2.St} {U : Store} {H : Hp} {R' : L2.It → Hp → Prop} {Q : VK} (S : RepS X.prog X.w X.K Z β ρ σ) (R : Rel X.prog X.w X.K X.mg Φ Z β U H) (h : bnd (ev C e ρ U) f = some r)
    (o : Out X.prog X.w X.K X.mg W Φ Z β σ (fun src U' => DoneW X.prog X.w X.K X.mg Φ Z β src U' R') r)
    (k : ∀ Z' β' H' d v U', ZLe Z Z' → BLe β β' → Rel X.prog X.w X.K X.mg Φ Z' β' U' H' → RepV X.prog X.w X.K Z' β' d v → RepS X.prog X.w X.K Z' β' ρ σ → f d U' = some r → Out X.prog X.w X.K X.mg W Φ Z' β' σ (fun src U' => DoneW X.prog X.w X.K X.mg Φ Z' β' src U' R') r → Q v H') : xE X C W e σ H Q :=
  tE_bnd S R h o.wish fun Z' β' H' d v U' z b R1 r1 S1 h1 => k Z' β' H' d v U' z b R1 r1 S1 h1 (o.mono z b fun src U' q => DoneW.mono q z b)
theorem i_seq (ha : PE X e (xE X C W a)) : PI X tg e (xI X C W (.seq a)) := by
  refine ⟨fun pins s σ H R' I ⟨Φ, Z, β, ρ, U, r, S, R, h, o⟩ => ?_⟩
  rw [evIt] at h
  refine L2.thn (ha.run pins s σ H (fun x H1 => (∃ a, x = .ref a ∧ (∃ xs, SqL X.K H1 a xs) ∧ R' (Itl X.K a) H1) ∨ (∃ a, x = .ref a ∧ (∃ xs, SqT X.K H1 a xs) ∧ R' (Itt X.K a) H1) ∨ ∃ y, x = .str y ∧ R' (Its y) H1) I ?_) fun v s1 ⟨x, H1, I1, r1, q1⟩ => ?_
  · refine tE_bndI S R h o fun Z1 β1 H1 d v U1 z1 b1 R1 r1 S1 h1 o1 => ?_
    split at h1
    · rename_i src hs
      cases h1
      unfold srcOf at hs
      split at hs
      · rename_i xs
        obtain ⟨a, vs, rfl, s, ls⟩ := lstSrc R1 (d := .lst xs) (src := src) hs r1
        exact .inl ⟨a, rfl, ⟨vs, s⟩, o1.ok Z1 β1 H1 _ (ZLe.refl _) (BLe.refl _) R1 (walk_lst ls)⟩
      · rename_i xs
        cases hs
        obtain ⟨a, vs, rfl, s, q⟩ := R1.tuple r1
        exact .inr (.inl ⟨a, rfl, ⟨vs, s⟩, o1.ok Z1 β1 H1 _ (ZLe.refl _) (BLe.refl _) R1 (walk_tup r1)⟩)
      · rename_i x
        cases hs
        simp only [RepV] at r1
        exact .inr (.inr ⟨_, r1, o1.ok Z1 β1 H1 _ (ZLe.refl _) (BLe.refl _) R1 walk_str⟩)
      · rename_i n
        obtain ⟨a, vs, rfl, s, ls⟩ := lstSrc R1 (d := .ref n) (src := src) hs r1
        exact .inl ⟨a, rfl, ⟨vs, s⟩, o1.ok Z1 β1 H1 _ (ZLe.refl _) (BLe.refl _) R1 (walk_lst ls)⟩
      · cases hs
    · cases h1
  · rcases q1 with ⟨a, rfl, ⟨xs, hq⟩, q⟩ | ⟨a, rfl, ⟨xs, hq⟩, q⟩ | ⟨x, rfl, q⟩
    · cases r1
      obtain ⟨its, rv, p, hz⟩ := I1.list hq
      exact wpAny_pyIter_list p.isList (pi_one (tk := s1.toks) I1 _ (turn_list a _) ⟨_, Heap.get?_push_size _ rfl, rfl, rfl⟩ q)
    · cases r1
      obtain ⟨its, rv, p, hz⟩ := I1.tuple hq
      exact wpAny_pyIter_tuple (show s1.heap.IsTuple a its.toArray from p) (pi_one (tk := s1.toks) I1 _ (turn_tuple a _) ⟨_, Heap.get?_push_size _ rfl, rfl, rfl⟩ q)
    · obtain ⟨t, rfl⟩ := r1
      cases ha : x.cps.all (· < 128)
      · exact wpAny_pyIter_wide ha (pi_one (tk := s1.toks) I1 _ (turn_str _ x t "str_iterator" (.inr rfl)) ⟨_, Heap.get?_push_size _ rfl, rfl, rfl⟩ q)
      · exact wpAny_pyIter_ascii ha (pi_one (tk := s1.toks) I1 _ (turn_str _ x t "str_ascii_iterator" (.inl rfl)) ⟨_, Heap.get?_push_size _ rfl, rfl, rfl⟩ q)
/-- one argument -/
theorem a_one (ht : tame e = true) (ha : PE X e (xE X C W a)) : PA X [e] (tCons (xE X C W a) tNil) := pa_cons ha pa_nil (star_tame ht [] _)
theorem a_two (ht : tame e1 = true) (ht2 : tame e2 = true) (ha : PE X e1 (xE X C W a)) (hb : PE X e2 (xE X C W b)) : PA X [e1, e2] (tCons (xE X C W a) (tCons (xE X C W b) tNil)) := pa_cons ha (pa_cons hb pa_nil (star_tame ht2 [] _)) (star_tame ht [e2] _)
theorem small_ok {i : Int} (h : small i = true) : -(2 ^ 62) ≤ i ∧ i < 2 ^ 62 := by
  unfold small at h
  simp only [Bool.and_eq_true, decide_eq_true_eq] at h
  omega
theorem i_range1 (hg : Gl X "range") (hm : X.mg "range" = none) (ht : tame e = true) (ha : PE X e (xE X C W a)) : PI X tg (.Call (.Name "range" p) [e] [] pos) (xI X C W (.range1 a)) := by
  refine ⟨fun pins s σ H R' I ⟨Φ, Z, β, ρ, U, r, S, R, h, o⟩ => (pi_range1 hg hm (a_one ht ha) (star_tame ht [] _)).run pins s σ H R' I ?_⟩
  rw [evIt] at h
  refine tE_bndI S R h o fun Z1 β1 H1 d v U1 z1 b1 R1 r1 S1 h1 o1 => ?_
  split at h1
  · rename_i i
    split at h1
    · rename_i hi
      cases h1
      simp only [RepV] at r1
      subst r1
      refine ⟨i, rfl, (small_ok hi).1, (small_ok hi).2, o1.ok Z1 β1 H1 _ (ZLe.refl _) (BLe.refl _) R1 ?_⟩
      have := walk_range (P := X.prog) (w := X.w) (K := X.K) (mg := X.mg) (Z := Z1) (β := β1) (lo := 0) (hi := i)
      simpa using this
    · cases h1
  · cases h1
theorem i_range2 (hg : Gl X "range") (hm : X.mg "range" = none) (ht : tame e1 = true) (ht2 : tame e2 = true) (ha : PE X e1 (xE X C W a)) (hb : PE X e2 (xE X C W b)) : PI X tg (.Call (.Name "range" p) [e1, e2] [] pos) (xI X C W (.range2 a b)) := by
  refine ⟨fun pins s σ H R' I ⟨Φ, Z, β, ρ, U, r, S, R, h, o⟩ => (pi_range2 hg hm (a_two ht ht2 ha hb) (by rw [star_tame ht, star_tame ht2]; rfl) (star_tame ht2 [] _)).run pins s σ H R' I ?_⟩
  rw [evIt] at h
  refine tE_bndI S R h o fun Z1 β1 H1 d v U1 z1 b1 R1 r1 S1 h1 o1 => ?_
  refine tE_bndI S1 R1 h1 o1 fun Z2 β2 H2 d2 v2 U2 z2 b2 R2 r2 S2 h2 o2 => ?_
  split at h2
  · rename_i i j
    split at h2
    · rename_i hi
      cases h2
      simp only [Bool.and_eq_true] at hi
      simp only [RepV] at r1 r2
      subst r1 r2
      exact ⟨i, j, rfl, ⟨(small_ok hi.1).1, (small_ok hi.1).2, (small_ok hi.2).1, (small_ok hi.2).2⟩, o2.ok Z2 β2 H2 _ (ZLe.refl _) (BLe.refl _) R2 walk_range⟩
    · cases h2
  · cases h2
/-! ### enumerate -/
theorem enum_get {k : Int} : ∀ {gs : List (Store → Option D)} {n i : Nat} {g : Store → Option D}, (enumS k n gs)[i]? = some g → ∃ g0, gs[i]? = some g0 ∧ ∀ U, g U = (g0 U).map fun x => .tup [.int (k + ((n + i : Nat) : Int)), x]
  | [], n, i, g, h => by simp [enumS] at h
  | g0 :: r, n, 0, g, h => by
    simp only [enumS, List.getElem?_cons_zero, Option.some.injEq] at h
    subst h
    exact ⟨g0, rfl, fun U => by simp⟩
  | g0 :: r, n, i + 1, g, h => by
    simp only [enumS, List.getElem?_cons_succ] at h
    obtain ⟨g1, e, q⟩ := enum_get h
    refine ⟨g1, by simpa using e, fun U => ?_⟩
    rw [q]
    have : n + 1 + i = n + (i + 1) := by omega
    rw [this]
theorem enum_len {k : Int} : ∀ {gs : List (Store → Option D)} {n : Nat}, (enumS k n gs).length = gs.length
  | [], _ => rfl
  | _ :: r, n => by simp [enumS, enum_len (gs := r)]
theorem walk_enum {P : Program} {w : World} {K : PySem.W.Frag} {mg : Str → Option Value} {Z : Hp} {β : List Addr} {a : Addr} {src : Src} (h : LstSrc P w K mg Z β a src) : WalkV P w K mg Z β (Ite K a) ⟨enumS 0 0 src.get, src.fin⟩ := by
  refine ⟨fun i g e Φ Z' β' U H x z b R hg => ?_, fun Φ Z' β' U H z b R hf => ?_⟩
  · obtain ⟨g0, e0, q0⟩ := enum_get e
    rw [q0, Option.map_eq_some_iff] at hg
    obtain ⟨y, hy, rfl⟩ := hg
    obtain ⟨vs, v, s, e1, r⟩ := h.get i g0 e0 Φ Z' β' U H y z b R hy
    refine ⟨⟨vs, v, s, e1⟩, fun v' H' ⟨T, x, y1, hT, y2, y3⟩ => ?_⟩
    have := y3 vs s
    rw [e1] at this
    cases this
    subst y1 y2
    have q : RepL P w K Z' β' [D.int (0 + ((0 + i : Nat) : Int)), y] [V.int (i : Nat), v] := by
      refine RepL.cons ?_ (RepL.cons r RepL.nil)
      simp only [RepV]
      simp
    obtain ⟨Z2, z2, R2, r2⟩ := R.mkT q hT
    exact ⟨Z2, z2, R2, r2⟩
  · obtain ⟨vs, s, e1⟩ := h.fin Φ Z' β' U H z b R hf
    exact ⟨vs, s, by rw [e1]; simp [enum_len]⟩
theorem i_enum (hg : Gl X "enumerate") (hm : X.mg "enumerate" = none) (ht : tame e = true) (ha : PE X e (xE X C W a)) : PI X (.Tuple elts kk tpos) (.Call (.Name "enumerate" p) [e] [] pos) (xI X C W (.enum a 0)) := by
  refine ⟨fun pins s σ H R' I ⟨Φ, Z, β, ρ, U, r, S, R, h, o⟩ => (pi_enum hg hm (a_one ht ha) (star_tame ht [] _)).run pins s σ H R' I ?_⟩
  rw [evIt] at h
  refine tE_bndI S R h o fun Z1 β1 H1 d v U1 z1 b1 R1 r1 S1 h1 o1 => ?_
  split at h1
  · rename_i src hs
    rw [if_pos rfl] at h1
    cases h1
    obtain ⟨a, vs, rfl, s, ls⟩ := lstSrc R1 hs r1
    exact ⟨a, vs, rfl, s, o1.ok Z1 β1 H1 _ (ZLe.refl _) (BLe.refl _) R1 (walk_enum ls)⟩
  · cases h1
end
end VI

/-! VIc8: what the language gives: the rules. -/
namespace VI
open PySem PySem.Spec PyProof.Rows L2
/-- a call of a built-in by values -/
def rP (X : Cx) (p : P) (m : Bool) : List V → Hp → VK → Prop := fun vs H Q => ∃ Φ Z β U ds d U', Rel X.prog X.w X.K X.mg Φ Z β U H ∧ RepL X.prog X.w X.K Z β ds vs ∧ prim p m ds U = some (.ok d U') ∧ Done X.prog X.w X.K X.mg Φ Z β d U' Q
/-- .. of a method -/
def rM (X : Cx) (p : P) (m : Bool) : V → List V → Hp → VK → Prop := fun v vs H Q => ∃ Φ Z β U a ds d U', Rel X.prog X.w X.K X.mg Φ Z β U H ∧ RepV X.prog X.w X.K Z β a v ∧ RepL X.prog X.w X.K Z β ds vs ∧ prim p m (a :: ds) U = some (.ok d U') ∧ Done X.prog X.w X.K X.mg Φ Z β d U' Q
theorem prim_ok {p : P} {m : Bool} {ds : List D} {U V : Store} {x : Ex} (h : prim p m ds U = some (.ex x V)) : False := by
  unfold prim lenOf mkL mkD at h
  split at h
  all_goals (repeat' split at h)
  all_goals cases h
def isMeth : P → Bool
  | .join | .split | .startswith | .rstrip | .find | .isdigit | .index | .count | .append | .extend | .insert | .pop0 | .pop1 | .clear | .reverse | .get1 | .get2 | .setdefault | .popD => true
  | _ => false
theorem recv_fun {p : P} (h : isMeth p = false) (U : Store) (x : D) : recvOk p U x = true := by cases p <;> first | rfl | cases h
section
variable {X : Cx} {C : Cal} {W : WX} {e e1 e2 e3 : Expr} {a b c : IE} {pos p apos : Pos} {es : List Expr} {as : IEs} {x : Str} {pr : P} {m : Bool}
theorem n_fun0 {f : Value} (hc : CallR X f (rP X pr m)) (hp : isMeth pr = false) : ∀ σ H Q, xE X C W (.prim pr m (.cons a as)) σ H Q → tCB (rP X pr m) (xA X C W (.cons a as)) σ H Q := by
  intro σ H Q ⟨Φ, Z, β, ρ, U, r, S, R, h, o⟩
  rw [ev] at h
  have h : (bnd (evs C (.cons a as) ρ U) fun ds U2 => prim pr m ds U2) = some r := by
    rw [evs]
    cases q : ev C a ρ U with
    | none => simp only [q] at h; cases h
    | some r1 =>
      simp only [q] at h
      cases r1 with
      | ex x V => exact h
      | ok d V =>
        simp only [bnd_ok, recv_fun hp, if_true] at h ⊢
        cases q2 : evs C as ρ V with
        | none => rw [q2] at h; cases h
        | some r2 =>
          rw [q2] at h
          cases r2 with
          | ex x V2 => exact h
          | ok ds V2 => exact h
  refine tA_bnd S R h o.wish fun Z1 β1 H1 ds vs U1 z1 b1 R1 r1 S1 h1 => ?_
  obtain ⟨d3, U3, rfl⟩ := must h1 fun x V => prim_ok
  exact ⟨Φ, Z1, β1, U1, ds, d3, U3, R1, r1, h1, o.monoE z1 b1⟩
theorem n_fun {id : String} (hc : CallR X (.builtin id) (rP X pr m)) (hp : isMeth pr = false) (hg : Gl X x) (hm : X.mg x = none) (hv : bootBuiltins x = some (.builtin id)) (hn : x ≠ "__name__") (hdb : (x == ("__debug__" : Str)) = false) (ht : (e :: es).all tame = true) (ha : PA X (e :: es) (xA X C W (.cons a as))) :
    PE X (.Call (.Name x p) (e :: es) [] pos) (xE X C W (.prim pr m (.cons a as))) := by
  simp only [List.all_cons, Bool.and_eq_true] at ht
  exact (pe_callB hc hg hm hv ha hn hdb (star_tame ht.1 es _) (stars_tame ht.2 pos _)).imp (n_fun0 hc hp)
theorem n_ty {T : String} (hc : CallR X (.type T) (rP X pr m)) (hp : isMeth pr = false) (hg : Gl X x) (hm : X.mg x = none) (hv : bootBuiltins x = some (.type T)) (hn : x ≠ "__name__") (hdb : (x == ("__debug__" : Str)) = false) (ht : (e :: es).all tame = true) (ha : PA X (e :: es) (xA X C W (.cons a as))) :
    PE X (.Call (.Name x p) (e :: es) [] pos) (xE X C W (.prim pr m (.cons a as))) := by
  simp only [List.all_cons, Bool.and_eq_true] at ht
  exact (pe_callTy hc hg hm hv ha hn hdb (star_tame ht.1 es _) (stars_tame ht.2 pos _)).imp (n_fun0 hc hp)
/-- a datum's type in the heap -/
theorem recv_is {pins : List (Addr × Obj)} {σ : L2.St} {H : Hp} {s : Shared} {Φ : List (Addr × HO)} {Z : Hp} {β : List Addr} {U : Store} {d : D} {v : V} {u : Value} (I : Inv X pins σ H s) (R : Rel X.prog X.w X.K X.mg Φ Z β U H) (rd : RepV X.prog X.w X.K Z β d v) (rv : RelV v u) :
    (∀ x, d = .str x → s.TypeIs u "str" ∧ ∀ a, u = .ref a → ∃ ob, s.heap.get? a = some ob ∧ ob.dict = none) ∧
    (∀ xs, asL U d = some xs → s.TypeIs u "list" ∧ ∀ a, u = .ref a → ∃ ob, s.heap.get? a = some ob ∧ ob.dict = none) ∧
    ∀ t kvs, asD U d = some (t, kvs) → s.TypeIs u "dict" ∧ ∀ a, u = .ref a → ∃ ob, s.heap.get? a = some ob ∧ ob.dict = none := by
  refine ⟨fun x e => ?_, fun xs e => ?_, fun t kvs e => ?_⟩
  · subst e
    simp only [RepV] at rd
    subst rd
    exact tyV_is I rv rfl
  · obtain ⟨p, vs, rfl, sq, q⟩ := R.list e rd
    exact tyV_is (T := "list") I rv (.inl ⟨rfl, vs, sq⟩)
  · obtain ⟨p, rfl, h⟩ := R.dict e rd
    cases rv
    rcases h with ⟨_, l, e, q⟩ | ⟨_, l, e, nd, q⟩
    · obtain ⟨_, _, vs, _, dd⟩ := dk_rd I.hok (.inl e)
      refine ⟨dd.typeIs, fun a e => ?_⟩
      cases e
      obtain ⟨o, _, _, h1, h2, _⟩ := dd
      exact ⟨o, h1, h2.2.1⟩
    · obtain ⟨_, _, dd⟩ := dn_heap R I e nd q
      refine ⟨dd.typeIs, fun a e => ?_⟩
      cases e
      obtain ⟨o, _, _, h1, h2, _⟩ := dd
      exact ⟨o, h1, h2.2.1⟩
/-- what a receiver is, by its method -/
theorem recv_ok {T : String} {pins : List (Addr × Obj)} {σ : L2.St} {H : Hp} {s : Shared} {Φ : List (Addr × HO)} {Z : Hp} {β : List Addr} {U : Store} {d : D} {v : V} {u : Value} (I : Inv X pins σ H s) (R : Rel X.prog X.w X.K X.mg Φ Z β U H) (rd : RepV X.prog X.w X.K Z β d v) (rv : RelV v u)
    (h : (T = "str" ∧ ∃ x, d = .str x) ∨ (T = "list" ∧ (asL U d).isSome = true) ∨ (T = "dict" ∧ (asD U d).isSome = true)) : s.TypeIs u T ∧ ∀ a, u = .ref a → ∃ ob, s.heap.get? a = some ob ∧ ob.dict = none := by
  obtain ⟨h1, h2, h3⟩ := recv_is I R rd rv
  rcases h with ⟨rfl, x, e⟩ | ⟨rfl, e⟩ | ⟨rfl, e⟩
  · exact h1 x e
  · obtain ⟨xs, e⟩ := Option.isSome_iff_exists.mp e
    exact h2 xs e
  · obtain ⟨⟨t, kvs⟩, e⟩ := Option.isSome_iff_exists.mp e
    exact h3 t kvs e
/-- the kind of receiver a method has -/
def recvT : P → String
  | .join | .split | .startswith | .rstrip | .find | .isdigit => "str"
  | .get1 | .get2 | .setdefault | .popD => "dict"
  | _ => "list"
theorem recvT_ok {U : Store} {d : D} (hp : isMeth pr = true) (h : recvOk pr U d = true) : (recvT pr = "str" ∧ ∃ x, d = .str x) ∨ (recvT pr = "list" ∧ (asL U d).isSome = true) ∨ (recvT pr = "dict" ∧ (asD U d).isSome = true) := by
  cases pr <;> first
    | (cases hp; done)
    | (refine .inl ⟨rfl, ?_⟩
       simp only [recvOk] at h
       split at h
       · exact ⟨_, rfl⟩
       · cases h
       done)
    | exact .inr (.inl ⟨rfl, h⟩)
    | exact .inr (.inr ⟨rfl, h⟩)
/-- o.m(e, ..) -/
theorem n_meth {name : Str} {id : String} (hp : isMeth pr = true) (pa : PlainAttrs (recvT pr)) (slot : Slot (recvT pr) name id) (hty : typeOf (.builtin id) = pure (.type "method_descriptor")) (hm : MtR X id (rM X pr m)) (hb : noSup e1 = true) (hline : (apos.endLine == pos.line) = true)
    (ht : (e :: es).all tame = true) (hl : (e :: es).length < 20) (ho : PE X e1 (xE X C W a)) (ha : PA X (e :: es) (xA X C W as)) : PE X (.Call (.Attribute e1 name apos) (e :: es) [] pos) (xE X C W (.prim pr m (.cons a as))) := by
  refine ⟨fun pins s σ H Q I ⟨Φ, Z, β, ρ, U, r, S, R, h, o⟩ => ?_⟩
  simp only [List.all_cons, Bool.and_eq_true] at ht
  have hs := star_tame ht.1 es X.env
  have hplain := stars_tame ht.2 pos X.env
  rw [ev] at h
  have hlen : ∀ (es : List Expr), es.all tame = true → (backTo pos (starEach es X.env)).all (fun x => !x.1) = true := fun es h => by
    have := stars_tame h pos X.env
    rw [List.any_eq_false] at this
    rw [List.all_eq_true]
    intro x hx
    simpa using this x hx
  refine wpAny_Call_method_late (attr_noSup hb name X.env _) ?_ hline rfl (L2.thn (ho.run pins s σ H (fun x H1 => ∃ Z β U d r, Rel X.prog X.w X.K X.mg Φ Z β U H1 ∧ RepV X.prog X.w X.K Z β d x ∧ recvOk pr U d = true ∧ RepS X.prog X.w X.K Z β ρ σ ∧ (bnd (evs C as ρ U) fun ds U2 => prim pr m (d :: ds) U2) = some r ∧
    Out X.prog X.w X.K X.mg W Φ Z β σ (fun d U' => Done X.prog X.w X.K X.mg Φ Z β d U' Q) r) I ?_) fun v s1 ⟨x, H1, I1, r1, Z1, β1, U1, d, r, R1, rd, hr, S1, h1, o1⟩ => ?_)
  · have e1 : (backTo pos (starEach (e :: es) X.env)).all (fun x => !x.1) = true := hlen (e :: es) (by simp [ht])
    rw [e1]
    simp only [Bool.true_and]
    have e2 : (backToKw pos (keywordEach [] X.env)).all (fun x => x.1.isSome) = true := rfl
    rw [e2]
    simp only [Bool.true_and, decide_eq_true_eq]
    simp only [List.isEmpty_nil, if_true, List.length_nil]
    omega
  · refine tE_bnd S R h o.wish fun Z1 β1 H1 d v U1 z1 b1 R1 r1 S1 h1 => ?_
    split at h1
    · rename_i hr
      exact ⟨Z1, β1, U1, d, r, R1, r1, hr, S1, h1, o.monoE z1 b1⟩
    · cases h1
  · obtain ⟨t1, t2⟩ := recv_ok I1 R1 rd r1 (recvT_ok hp hr)
    refine ⟨recvT pr, id, pa, slot, hty, t1, t2, ?_⟩
    have hA := ha.run pos pins s1 σ H1 (fun vs H2 => rM X pr m x vs H2 Q) I1 (tA_bnd S1 R1 h1 o1.wish fun Z2 β2 H2 ds vs U2 z2 b2 R2 r2 S2 h2 => by
      obtain ⟨d3, U3, rfl⟩ := must h2 fun x V => prim_ok
      exact ⟨Φ, Z2, β2, U2, d, ds, d3, U3, R2, RepV.mono z2 b2 rd, r2, h2, o1.monoE z2 b2⟩)
    rw [hs] at hA ⊢
    refine Calls.callWith_builtin (by show (false || (backTo pos (starEach es X.env)).any (·.1)) = false; rw [hplain]; rfl) (Calls.evalArgs_plain ?_)
    exact L2.thn hA fun us s2 ⟨vs, H2, I2, r2, q2⟩ => hm pins s2 σ H2 x vs v us Q I2 r1 r2 q2
/-- o.m() -/
theorem n_meth0 {name : Str} {id : String} (hp : isMeth pr = true) (pa : PlainAttrs (recvT pr)) (slot : Slot (recvT pr) name id) (hty : typeOf (.builtin id) = pure (.type "method_descriptor")) (hm : MtR X id (rM X pr m)) (hb : noSup e1 = true) (hline : (apos.endLine == pos.line) = true)
    (ho : PE X e1 (xE X C W a)) : PE X (.Call (.Attribute e1 name apos) [] [] pos) (xE X C W (.prim pr m (.cons a .nil))) := by
  refine ⟨fun pins s σ H Q I ⟨Φ, Z, β, ρ, U, r, S, R, h, o⟩ => ?_⟩
  rw [ev] at h
  refine wpAny_Call_method0_late (attr_noSup hb name X.env _) hline (L2.thn (ho.run pins s σ H (fun x H1 => ∃ Z β U d r, Rel X.prog X.w X.K X.mg Φ Z β U H1 ∧ RepV X.prog X.w X.K Z β d x ∧ recvOk pr U d = true ∧ prim pr m [d] U = some r ∧
    Out X.prog X.w X.K X.mg W Φ Z β σ (fun d U' => Done X.prog X.w X.K X.mg Φ Z β d U' Q) r) I ?_) fun v s1 ⟨x, H1, I1, r1, Z1, β1, U1, d, r, R1, rd, hr, h1, o1⟩ => ?_)
  · refine tE_bnd S R h o.wish fun Z1 β1 H1 d v U1 z1 b1 R1 r1 S1 h1 => ?_
    split at h1
    · rename_i hr
      rw [evs, bnd_ok] at h1
      exact ⟨Z1, β1, U1, d, r, R1, r1, hr, h1, o.monoE z1 b1⟩
    · cases h1
  · obtain ⟨t1, t2⟩ := recv_ok I1 R1 rd r1 (recvT_ok hp hr)
    obtain ⟨d3, U3, rfl⟩ := must h1 fun x V => prim_ok
    refine ⟨recvT pr, id, pa, slot, hty, t1, t2, Calls.callWith_builtin rfl (PySem.evalArgs_none (hm pins s1 σ H1 x [] v [] Q I1 r1 .nil ⟨Φ, Z1, β1, U1, d, [], d3, U3, R1, rd, RepL.nil, h1, o1⟩))⟩
end
end VI

/-! VIc9: what the language gives, one by one. -/
namespace VI
open PySem PySem.Spec PyProof.Rows L2
section
variable {X : Cx} {C : Cal} {W : WX} {m : Bool}
theorem one_rep {P : Program} {w : World} {K : PySem.W.Frag} {Z : Hp} {β : List Addr} {d : D} {vs : List V} (h : RepL P w K Z β [d] vs) : ∃ v, vs = [v] ∧ RepV P w K Z β d v := by
  simp only [RepL] at h
  obtain ⟨v, s, rfl, r, rfl⟩ := h
  exact ⟨v, rfl, r⟩
theorem two_rep {P : Program} {w : World} {K : PySem.W.Frag} {Z : Hp} {β : List Addr} {d e : D} {vs : List V} (h : RepL P w K Z β [d, e] vs) : ∃ v u, vs = [v, u] ∧ RepV P w K Z β d v ∧ RepV P w K Z β e u := by
  simp only [RepL] at h
  obtain ⟨v, s, rfl, r, u, s2, rfl, r2, rfl⟩ := h
  exact ⟨v, u, rfl, r, r2⟩
/-- dicts' len -/
theorem call_len_d : CallR X (.builtin "len") (fun xs H Q => ∃ x Φ Z β U a kvs, xs = [x] ∧ Rel X.prog X.w X.K X.mg Φ Z β U H ∧ RepV X.prog X.w X.K Z β a x ∧ asD U a = some (0, kvs) ∧ Q (.int kvs.length) H) := by
  intro pins s σ H xs us Q I r ⟨x, Φ, Z, β, U, a, kvs, e, R, ra, hd, q⟩
  subst e
  obtain ⟨u, rfl, rx⟩ := vals1 r
  obtain ⟨p, rfl, h⟩ := R.dict hd ra
  cases rx
  rcases h with ⟨_, l, e, q1⟩ | ⟨h0, _⟩
  · refine d_len I (.inl e) fun tk s' I' => ⟨.int _, H, I', ⟨tk, rfl⟩, ?_⟩
    rw [← repK_len q1]
    exact q
  · cases h0
theorem c_len : CallR X (.builtin "len") (rP X .len m) := by
  refine CallR.imp ((call_len_seq.or call_len_str).or call_len_d) ?_
  rintro vs H Q ⟨Φ, Z, β, U, ds, d', U', R, q, e, dn⟩
  cases ds with
  | nil => simp [prim] at e
  | cons d ds =>
    cases ds with
    | cons _ _ => simp [prim] at e
    | nil =>
      obtain ⟨v, rfl, r⟩ := one_rep q
      rw [prim] at e
      unfold lenOf at e
      split at e
      · rename_i x
        split at e
        · rename_i hx
          obtain ⟨rfl, rfl⟩ := ok_inj e
          simp only [RepV] at r
          subst r
          refine .inl (.inr ⟨_, rfl, by rw [str_len, ← SZ_eq]; exact hx, ?_⟩)
          rw [str_len]
          exact dn.int R
        · cases e
      · split at e
        · rename_i xs hq
          obtain ⟨rfl, rfl⟩ := ok_inj e
          obtain ⟨p, ws, rfl, sq, q2⟩ := R.seq hq r
          refine .inl (.inl ⟨p, ws, rfl, sq, ?_⟩)
          rw [← q2.length]
          exact dn.int R
        · split at e
          · rename_i t kvs hd
            split at e
            · rename_i ht
              subst ht
              obtain ⟨rfl, rfl⟩ := ok_inj e
              exact .inr ⟨v, Φ, Z, β, U, d, kvs, rfl, R, r, hd, dn.int R⟩
            · cases e
          · cases e
/-! ### split at a sign -/
theorem spl_one (c : Nat) : ∀ (x acc : List Nat), TL.spl [c] 0 acc x = (match splitC c x with | [] => [] | w :: ws => (acc ++ w) :: ws)
  | [], acc => by simp [TL.spl, splitC]
  | y :: r, acc => by
    have ih := spl_one c r
    by_cases h : y = c
    · have hp : TL.pre [c] (y :: r) = true := by subst h; simp [TL.pre]
      rw [TL.spl_hit hp]
      simp only [splitC, if_pos h]
      have := ih []
      simp only [List.nil_append] at this
      simp only [List.length_singleton, Nat.sub_self, List.append_nil]
      rw [this]
      cases q : splitC c r with
      | nil => rfl
      | cons w ws => rfl
    · have hp : TL.pre [c] (y :: r) = false := by
        simp [TL.pre]
        exact fun z => h z
      rw [TL.spl_miss hp, ih]
      simp only [splitC, if_neg h]
      cases q : splitC c r with
      | nil =>
        exfalso
        have ne : ∀ x : List Nat, splitC c x ≠ [] := by
          intro x
          induction x with
          | nil => simp [splitC]
          | cons z t ih2 =>
            simp only [splitC]
            split
            · simp
            · split <;> simp
        exact ne _ q
      | cons w ws => simp
theorem tl_of (x : Tx) : TL.tl (⟨x.toArray⟩ : Str) = x := rfl
theorem str_of_tl (s : Str) : (⟨(TL.tl s).toArray⟩ : Str) = s := by
  cases s
  simp [TL.tl]
theorem m_split : MtR X "str.split" (rM X .split m) := by
  refine MtR.imp mt_split ?_
  rintro v vs H Q ⟨Φ, Z, β, U, a, ds, d', U', R, ra, q, e, dn⟩
  have sh : ∃ x c, a = .str x ∧ ds = [.str [c]] := by
    unfold prim at e
    split at e <;> first
      | (rename_i x c; exact ⟨x, c, by simp_all, by simp_all⟩)
      | simp_all
  obtain ⟨x, c, rfl, rfl⟩ := sh
  rw [prim] at e
  split at e
  · rename_i hx
    obtain ⟨u, rfl, ru⟩ := one_rep q
    simp only [RepV] at ra ru
    subst ra ru
    refine ⟨_, _, rfl, rfl, by simp [Str.length], by rw [str_len, ← SZ_eq]; exact hx.1, fun p hp => ?_⟩
    have hk := TL.split_spl (⟨x.toArray⟩ : Str) (⟨[c].toArray⟩ : Str) (by simp [TL.tl]) (TL.kind_ok (by simp; omega))
    rw [tl_of, tl_of, spl_one] at hk
    have e1 : (Txt.split ⟨x.toArray⟩ ⟨[c].toArray⟩).map V.str = ((splitC c x).map fun z => V.str ⟨z.toArray⟩) := by
      have : (Txt.split ⟨x.toArray⟩ ⟨[c].toArray⟩).map TL.tl = splitC c x := by
        rw [hk]
        cases splitC c x <;> simp
      rw [← this, List.map_map]
      refine List.map_congr_left fun s _ => ?_
      simp only [Function.comp_apply]
    rw [e1]
    refine dn.lst R e ?_ hp
    have : ∀ zs : List Tx, RepL X.prog X.w X.K Z β (zs.map .str) (zs.map fun z => V.str ⟨z.toArray⟩) := by
      intro zs
      induction zs with
      | nil => exact RepL.nil
      | cons z zs ih =>
        refine RepL.cons ?_ ih
        simp only [RepV]
    exact this _
  · cases e
end
end VI

/-! VIc10: numbers, texts, lists: built-ins by values. -/
namespace VI
open PySem PySem.Spec PyProof.Rows L2
theorem MtM.imp {X : Cx} {id : String} {r r' : V → List V → Hp → VK → Prop} (h : MtM X id r) (i : ∀ x xs H Q, r' x xs H Q → r x xs H Q) : MtR X id r' := fun pins s σ H x xs v us Q I rx rxs q => h pins s σ H x xs v us Q I rx rxs (i x xs H Q q)
section
variable {X : Cx} {m : Bool}
/-- a built-in that takes one, two data -/
theorem fun1 {f : Value} {p : P} {r : List V → Hp → VK → Prop} (h : CallR X f r) (sh : ∀ ds U d U', prim p m ds U = some (.ok d U') → ∃ x, ds = [x])
    (i : ∀ Φ Z β U x d U' v H Q, Rel X.prog X.w X.K X.mg Φ Z β U H → RepV X.prog X.w X.K Z β x v → prim p m [x] U = some (.ok d U') → Done X.prog X.w X.K X.mg Φ Z β d U' Q → r [v] H Q) : CallR X f (rP X p m) := by
  refine CallR.imp h ?_
  rintro vs H Q ⟨Φ, Z, β, U, ds, d, U', R, q, e, dn⟩
  obtain ⟨x, rfl⟩ := sh _ _ _ _ e
  obtain ⟨v, rfl, rv⟩ := one_rep q
  exact i Φ Z β U x d U' v H Q R rv e dn
theorem fun2 {f : Value} {p : P} {r : List V → Hp → VK → Prop} (h : CallR X f r) (sh : ∀ ds U d U', prim p m ds U = some (.ok d U') → ∃ x y, ds = [x, y])
    (i : ∀ Φ Z β U x y d U' v u H Q, Rel X.prog X.w X.K X.mg Φ Z β U H → RepV X.prog X.w X.K Z β x v → RepV X.prog X.w X.K Z β y u → prim p m [x, y] U = some (.ok d U') → Done X.prog X.w X.K X.mg Φ Z β d U' Q → r [v, u] H Q) : CallR X f (rP X p m) := by
  refine CallR.imp h ?_
  rintro vs H Q ⟨Φ, Z, β, U, ds, d, U', R, q, e, dn⟩
  obtain ⟨x, y, rfl⟩ := sh _ _ _ _ e
  obtain ⟨v, u, rfl, rv, ru⟩ := two_rep q
  exact i Φ Z β U x y d U' v u H Q R rv ru e dn
theorem c_abs : CallR X (.builtin "abs") (rP X .abs m) := by
  refine fun1 call_abs (fun ds U d U' e => ?_) fun Φ Z β U x d U' v H Q R r e dn => ?_
  · unfold prim at e
    split at e <;> first | exact ⟨_, rfl⟩ | simp_all
  · cases x with
    | int i =>
      rw [prim] at e
      obtain ⟨rfl, rfl⟩ := ok_inj e
      simp only [RepV] at r
      subst r
      exact ⟨i, rfl, dn.int R⟩
    | _ => simp [prim] at e
theorem c_max2 (hc : X.calm = true) : CallR X (.builtin "max") (rP X .max2 m) := by
  refine fun2 (call_max2 hc) (fun ds U d U' e => ?_) fun Φ Z β U x y d U' v u H Q R r r2 e dn => ?_
  · unfold prim at e
    split at e <;> first | exact ⟨_, _, rfl⟩ | simp_all
  · cases x <;> cases y <;> simp only [prim, reduceCtorEq] at e
    rename_i i j
    obtain ⟨rfl, rfl⟩ := ok_inj e
    simp only [RepV] at r r2
    subst r r2
    exact ⟨i, j, rfl, dn.int R⟩
theorem c_min2 (hc : X.calm = true) : CallR X (.builtin "min") (rP X .min2 m) := by
  refine fun2 (call_min2 hc) (fun ds U d U' e => ?_) fun Φ Z β U x y d U' v u H Q R r r2 e dn => ?_
  · unfold prim at e
    split at e <;> first | exact ⟨_, _, rfl⟩ | simp_all
  · cases x <;> cases y <;> simp only [prim, reduceCtorEq] at e
    rename_i i j
    obtain ⟨rfl, rfl⟩ := ok_inj e
    simp only [RepV] at r r2
    subst r r2
    exact ⟨i, j, rfl, dn.int R⟩
theorem show_eq (i : Int) : (Str.ofString (toString i)) = ⟨(showI i).toArray⟩ := by
  refine TL.ext_tl ?_
  rw [TL.tl_ofString]
  rfl
theorem c_str1 : CallR X (.type "str") (rP X .str1 m) := by
  refine fun1 (call_str_int.or SkE.call_str_str) (fun ds U d U' e => ?_) fun Φ Z β U x d U' v H Q R r e dn => ?_
  · unfold prim at e
    split at e <;> first | exact ⟨_, rfl⟩ | simp_all
  · cases x with
    | int i =>
      rw [prim] at e
      split at e
      · rename_i hb
        obtain ⟨rfl, rfl⟩ := ok_inj e
        simp only [RepV] at r
        subst r
        refine .inl ⟨i, rfl, ?_, ?_⟩
        · unfold bits at hb
          split at hb
          · rename_i h0
            subst h0
            decide
          · omega
        · have := dn.str R
          rw [← show_eq] at this
          exact this
      · cases e
    | str z =>
      rw [prim] at e
      obtain ⟨rfl, rfl⟩ := ok_inj e
      simp only [RepV] at r
      subst r
      exact .inr ⟨_, rfl, dn.str R⟩
    | _ => simp [prim] at e
theorem read_eq : ∀ (x : Tx) (n : Nat), x.foldl (fun acc c => acc * 10 + (c - 48)) n = x.foldl (fun n c => n * 10 + (c - 48)) n := fun _ _ => rfl
theorem c_int1 : CallR X (.type "int") (rP X .int1 m) := by
  refine fun1 (call_int1.or call_int_str) (fun ds U d U' e => ?_) fun Φ Z β U x d U' v H Q R r e dn => ?_
  · unfold prim at e
    split at e <;> first | exact ⟨_, rfl⟩ | simp_all
  · cases x with
    | int i =>
      rw [prim] at e
      obtain ⟨rfl, rfl⟩ := ok_inj e
      simp only [RepV] at r
      subst r
      exact .inl (.inl ⟨i, rfl, dn.int R⟩)
    | bl b =>
      rw [prim] at e
      obtain ⟨rfl, rfl⟩ := ok_inj e
      simp only [RepV] at r
      subst r
      exact .inl (.inr ⟨b, rfl, dn.int R⟩)
    | str z =>
      rw [prim] at e
      split at e
      · rename_i hz
        obtain ⟨rfl, rfl⟩ := ok_inj e
        simp only [RepV] at r
        subst r
        have ha : NumText.AllDigits z := fun c hc => by
          have := List.all_eq_true.mp hz.2.1 c hc
          simp only [isFig, Bool.and_eq_true, decide_eq_true_eq] at this
          exact this
        refine .inr ⟨_, _, rfl, intText_digits (x := ⟨z.toArray⟩) ha (by simpa using hz.1) (by rw [str_len]; omega), by rw [str_len]; omega, ?_⟩
        exact dn.int R
      · cases e
    | _ => simp [prim] at e
theorem pre_isPre : ∀ (y x : Tx), TL.pre y x = isPre y x
  | [], x => by simp [TL.pre, isPre]
  | a :: y, [] => by simp [TL.pre, isPre]
  | a :: y, b :: x => by
    have ih := pre_isPre y x
    unfold TL.pre at ih ⊢
    simp only [isPre, List.length_cons, List.take_succ_cons]
    rw [← ih]
    by_cases h : b = a
    · subst h; simp
    · have h' : ¬ a = b := fun z => h z.symm
      have e : (b :: List.take y.length x == a :: y) = false := by simp [h]
      simp [e, h']
theorem m_startswith : MtR X "str.startswith" (rM X .startswith m) := by
  refine MtR.imp mt_startswith ?_
  rintro v vs H Q ⟨Φ, Z, β, U, a, ds, d', U', R, ra, q, e, dn⟩
  have sh : ∃ x y, a = .str x ∧ ds = [.str y] := by
    unfold prim at e
    split at e <;> first
      | (rename_i x y; exact ⟨x, y, by simp_all, by simp_all⟩)
      | simp_all
  obtain ⟨x, y, rfl, rfl⟩ := sh
  rw [prim] at e
  split at e
  · cases e
  · rename_i hy
    obtain ⟨rfl, rfl⟩ := ok_inj e
    obtain ⟨u, rfl, ru⟩ := one_rep q
    simp only [RepV] at ra ru
    subst ra ru
    refine ⟨_, _, rfl, rfl, ?_⟩
    have h := TL.at_iff (x := ⟨x.toArray⟩) (y := ⟨y.toArray⟩) (by simpa [TL.tl] using hy) 0
    have e1 : Txt.startswith ⟨x.toArray⟩ ⟨y.toArray⟩ = isPre y x := by
      rw [← pre_isPre]
      have h2 : (Txt.startswith ⟨x.toArray⟩ ⟨y.toArray⟩ = true) ↔ TL.pre y x = true := by
        rw [List.drop_zero] at h
        refine Iff.trans ?_ h
        unfold Txt.startswith
        rw [Bool.and_eq_true, decide_eq_true_eq]
        exact Iff.rfl
      cases q1 : Txt.startswith ⟨x.toArray⟩ ⟨y.toArray⟩ <;> cases q2 : TL.pre y x <;> simp_all
    rw [e1]
    exact dn.bl R
theorem findC_none {c : Nat} : ∀ {x : Tx} {n : Nat}, c ∉ x → findC c x n = -1
  | [], n, _ => rfl
  | y :: r, n, h => by
    simp only [List.mem_cons, not_or] at h
    simp only [findC]
    rw [if_neg (fun z => h.1 z.symm)]
    exact findC_none h.2
theorem findC_at {c : Nat} : ∀ {x : Tx} {n i : Nat}, x[i]? = some c → (∀ k, k < i → x[k]? ≠ some c) → findC c x n = ((n + i : Nat) : Int)
  | [], n, i, h, _ => by simp at h
  | y :: r, n, 0, h, _ => by
    simp only [List.getElem?_cons_zero, Option.some.injEq] at h
    subst h
    simp [findC]
  | y :: r, n, i + 1, h, hn => by
    have h0 : y ≠ c := fun z => hn 0 (by omega) (by simp [z])
    simp only [findC, if_neg h0]
    rw [findC_at (i := i) (by simpa using h) fun k hk => by
      have := hn (k + 1) (by omega)
      simpa using this]
    congr 1
    omega
theorem m_find : MtR X "str.find" (rM X .find m) := by
  refine MtR.imp mt_find ?_
  rintro v vs H Q ⟨Φ, Z, β, U, a, ds, d', U', R, ra, q, e, dn⟩
  have sh : ∃ x c, a = .str x ∧ ds = [.str [c]] := by
    unfold prim at e
    split at e <;> first
      | (rename_i x c; exact ⟨x, c, by simp_all, by simp_all⟩)
      | simp_all
  obtain ⟨x, c, rfl, rfl⟩ := sh
  rw [prim] at e
  obtain ⟨rfl, rfl⟩ := ok_inj e
  obtain ⟨u, rfl, ru⟩ := one_rep q
  simp only [RepV] at ra ru
  subst ra ru
  refine ⟨_, _, rfl, rfl, ?_⟩
  have at_ : ∀ i, StrLaws.At (⟨x.toArray⟩ : Str) ⟨[c].toArray⟩ (⟨x.toArray⟩ : Str).length i ↔ x[i]? = some c := fun i => by
    rw [TL.at_iff (x := ⟨x.toArray⟩) (y := ⟨[c].toArray⟩) (by simp [TL.tl])]
    show TL.pre [c] (x.drop i) = true ↔ _
    rw [pre_isPre]
    cases q : x.drop i with
    | nil =>
      have : x.length ≤ i := by simpa using q
      simp [isPre, List.getElem?_eq_none this]
    | cons z t =>
      have hz : x[i]? = some z := by
        have := congrArg (fun l => l[0]?) q
        simpa using this
      simp only [isPre, Bool.and_true, decide_eq_true_eq, hz, Option.some.injEq]
      exact eq_comm
  have key : Txt.find ⟨x.toArray⟩ ⟨[c].toArray⟩ = findC c x 0 := by
    unfold Txt.find
    rcases StrLaws.occ_head (⟨x.toArray⟩ : Str) ⟨[c].toArray⟩ 1 (Nat.le_refl 1) with ⟨h1, h2⟩ | ⟨i, r, h1, h2, h3⟩
    · rw [h1]
      rw [findC_none fun hm => ?_]
      obtain ⟨i, hi, e⟩ := List.mem_iff_getElem.mp hm
      exact h2 i ((at_ i).mpr (by rw [List.getElem?_eq_getElem hi, e]))
    · rw [h1]
      rw [findC_at ((at_ i).mp h2) fun k hk z => h3 k hk ((at_ k).mpr z)]
      simp
  rw [key]
  exact dn.int R
/-! ### lists -/
theorem c_list1 : CallR X (.type "list") (rP X .list1 m) := by
  refine fun1 call_list_of (fun ds U d U' e => ?_) fun Φ Z β U x d U' v H Q R r e dn => ?_
  · unfold prim at e
    split at e <;> first | exact ⟨_, rfl⟩ | simp_all
  · rw [prim] at e
    split at e
    · rename_i xs hq
      obtain ⟨p, vs, rfl, sq, q⟩ := R.seq hq r
      exact ⟨p, vs, rfl, sq, fun l hl => dn.lst R e q hl⟩
    · cases e
theorem c_tuple1 : CallR X (.type "tuple") (rP X .tuple1 m) := by
  refine fun1 call_tuple_of (fun ds U d U' e => ?_) fun Φ Z β U x d U' v H Q R r e dn => ?_
  · unfold prim at e
    split at e <;> first | exact ⟨_, rfl⟩ | simp_all
  · rw [prim] at e
    split at e
    · rename_i xs hq
      obtain ⟨rfl, rfl⟩ := ok_inj e
      by_cases ht : ∃ ys, x = .tup ys
      · obtain ⟨ys, rfl⟩ := ht
        cases hq
        obtain ⟨p, vs, rfl, sq, q⟩ := R.tuple r
        exact ⟨p, vs, rfl, .inr ⟨sq, dn.same R r⟩⟩
      · have hl : asL U x = some xs := by
          cases x <;> simp_all [asQ]
        obtain ⟨p, vs, rfl, sq, q⟩ := R.list hl r
        exact ⟨p, vs, rfl, .inl ⟨sq, fun l hl => dn.tup R q hl⟩⟩
    · cases e
/-- a method that changes the list at a store's place -/
theorem mut_at {Φ : List (Addr × HO)} {Z : Hp} {β : List Addr} {U : Store} {H : Hp} {n : Nat} {xs : List D} {v : V} (R : Rel X.prog X.w X.K X.mg Φ Z β U H) (rv : RepV X.prog X.w X.K Z β (.ref n) v) (hu : U[n]? = some (.lst xs)) : ∃ a vs, v = .ref a ∧ β[n]? = some a ∧ H a = some (.lst vs) ∧ RepL X.prog X.w X.K Z β xs vs := by
  simp only [RepV] at rv
  obtain ⟨a, rfl, e⟩ := rv
  obtain ⟨vs, h1, h2⟩ := R.ref hu e
  exact ⟨a, vs, rfl, e, h1, h2⟩
theorem mut_done {Φ : List (Addr × HO)} {Z : Hp} {β : List Addr} {U : Store} {H : Hp} {n : Nat} {ys : List D} {us : List V} {a : Addr} (R : Rel X.prog X.w X.K X.mg Φ Z β U H) (e : β[n]? = some a) (q : RepL X.prog X.w X.K Z β ys us) : Rel X.prog X.w X.K X.mg Φ Z β (updS U n (.lst ys)) (L2.upd H a (.lst us)) :=
  R.write e ⟨us, L2.upd_same, q⟩
theorem m_append : MtR X "list.append" (rM X .append m) := by
  refine MtM.imp mt_append ?_
  rintro v vs H Q ⟨Φ, Z, β, U, a, ds, d', U', R, ra, q, e, dn⟩
  have sh : ∃ n x, a = .ref n ∧ ds = [x] := by
    unfold prim at e
    split at e <;> first
      | (rename_i n x; exact ⟨n, x, by simp_all, by simp_all⟩)
      | simp_all
  obtain ⟨n, x, rfl, rfl⟩ := sh
  rw [prim] at e
  split at e
  · rename_i xs hu
    split at e
    · rename_i hz
      obtain ⟨rfl, rfl⟩ := ok_inj e
      obtain ⟨u, rfl, ru⟩ := one_rep q
      obtain ⟨p, ws, rfl, e1, h1, h2⟩ := mut_at R ra hu
      exact ⟨p, ws, u, rfl, rfl, h1, by rw [← h2.length, ← SZ_eq]; exact hz, dn.non (mut_done R e1 (h2.append (RepL.cons ru RepL.nil)))⟩
    · cases e
  · cases e
end
end VI

/-! VId1: the check that ties the IR to the text; expressions. -/
namespace VI
open PySem PySem.Spec PyProof.Rows L2
/-! ### isinstance -/
section
variable {X : Cx} {C : Cal} {W : WX} {e : Expr} {a : IE} {pos p p2 : Pos}
theorem ty_of {H : Hp} {Φ : List (Addr × HO)} {Z : Hp} {β : List Addr} {U : Store} {d : D} {v : V} {t : String} (R : Rel X.prog X.w X.K X.mg Φ Z β U H) (r : RepV X.prog X.w X.K Z β d v) (h : tyN U d = some t) : TyX X.K H v (.type t) := by
  have lst : ∀ xs, asL U d = some xs → TyX X.K H v (.type "list") := fun xs hl => by
    obtain ⟨p, vs, rfl, sq, q⟩ := R.list hl r
    rcases sq with (sq | ⟨o, sq⟩) | ⟨o, its, n, h1, h2, _⟩
    · exact .base (.lst sq)
    · exact .base (.frz sq)
    · exact .kList h1 h2
  have dct : ∀ kvs, asD U d = some (0, kvs) → TyX X.K H v (.type "dict") := fun kvs hd => by
    obtain ⟨p, rfl, h⟩ := R.dict hd r
    rcases h with ⟨_, l, e, q1⟩ | ⟨h0, _⟩
    · exact .base (.dK e)
    · cases h0
  unfold tyN at h
  split at h
  · cases h; simp only [RepV] at r; subst r; exact .base .non
  · cases h; simp only [RepV] at r; subst r; exact .base (.bl _)
  · cases h; simp only [RepV] at r; subst r; exact .base (.int _)
  · cases h; simp only [RepV] at r; subst r; exact .base (.str _)
  · cases h
    obtain ⟨p, vs, rfl, sq, q⟩ := R.tuple r
    rcases sq with (sq | ⟨o, sq⟩) | ⟨o, its, n, h1, h2, _⟩
    · exact .base (.tup sq)
    · exact .fTuple sq
    · exact .kTuple h1 h2
  · cases h; exact lst _ rfl
  · split at h
    · rename_i h0
      subst h0
      cases h
      exact dct _ rfl
    · cases h
  · split at h
    · rename_i xs hu
      cases h
      exact lst xs (by simp [asL, hu])
    · rename_i t' kvs hu
      split at h
      · rename_i h0
        subst h0
        cases h
        exact dct kvs (by simp [asD, hu])
      · cases h
    · cases h
  · cases h
theorem kit_some {t c : String} (ht : t ∈ ["NoneType", "bool", "int", "str", "tuple", "list", "dict"]) (hc : c ∈ someTypes) : kitB t c = some (t == c || (t == "bool" && c == "int")) := by
  have h : (["NoneType", "bool", "int", "str", "tuple", "list", "dict"].all fun t => someTypes.all fun c => decide (kitB t c = some (t == c || (t == "bool" && c == "int")))) = true := by decide +kernel
  rw [List.all_eq_true] at h
  have h1 := h t ht
  rw [List.all_eq_true] at h1
  exact of_decide_eq_true (h1 c hc)
theorem tyN_mem {U : Store} {d : D} {t : String} (h : tyN U d = some t) : t ∈ ["NoneType", "bool", "int", "str", "tuple", "list", "dict"] := by
  unfold tyN at h
  repeat' split at h
  all_goals first
    | (cases h; simp; done)
    | cases h
theorem boot_type {c : String} (h : c ∈ someTypes) : bootBuiltins (Str.ofString c) = some (.type c) ∧ Str.ofString c ≠ "__name__" ∧ (Str.ofString c == ("__debug__" : Str)) = false := by
  simp only [someTypes, List.mem_cons, List.not_mem_nil, or_false] at h
  rcases h with rfl | rfl | rfl | rfl | rfl | rfl <;> exact ⟨by decide +kernel, by decide +kernel, by decide +kernel⟩
theorem n_isin {c : String} (hc : c ∈ someTypes) (hg : Gl X "isinstance") (hm : X.mg "isinstance" = none) (hg2 : Gl X (Str.ofString c)) (hm2 : X.mg (Str.ofString c) = none) (ht : tame e = true) (ha : PE X e (xE X C W a)) :
    PE X (.Call (.Name "isinstance" p) [e, .Name (Str.ofString c) p2] [] pos) (xE X C W (.isin a [c])) := by
  obtain ⟨b1, b2, b3⟩ := boot_type hc
  have h2 : PE X (.Name (Str.ofString c) p2) (tC (.ty c)) := pe_bltn hg2 hm2 b1 rfl b2 b3
  refine (pe_callB call_isi hg hm (by decide +kernel) (pa_cons ha (pa_cons h2 pa_nil) (star_tame ht _ _)) (by decide +kernel) (by decide +kernel) (star_tame ht _ _) rfl).imp fun σ H Q ⟨Φ, Z, β, ρ, U, r, S, R, h, o⟩ => ?_
  rw [ev] at h
  refine tE_bnd S R h o.wish fun Z1 β1 H1 d v U1 z1 b1 R1 r1 S1 h1 => ?_
  split at h1
  · rename_i k hk
    cases h1
    have hk1 : isInst1 U1 d c = some k := by
      simp only [isInst] at hk
      split at hk <;> simp_all
    unfold isInst1 at hk1
    split at hk1
    · simp only [RepV] at r1
    · split at hk1
      · rename_i t hty
        split at hk1
        · have hk2 := Option.some.inj hk1
          exact ⟨v, .ty c, .type t, .type c, k, rfl, .ty c, ty_of R1 r1 hty, kit_ty (by rw [← hk2]; exact kit_some (tyN_mem hty) hc), (o.monoE z1 b1).ok.bl R1⟩
        · cases hk1
      · cases hk1
  · cases h1
end
/-! ### the check -/
structure Ctx where
  N : List Str
  sc : Scope
  fn : Str → Bool
  fs : List String
  free : List String
  cs : List (String × D)
def visB (c : Ctx) (x : Str) : Bool := match c.sc.names.lookup x with
  | some .local => true
  | some .cell => true
  | some .free => true
  | _ => false
def glB (c : Ctx) (x : Str) : Bool := decide (c.sc.names.lookup x = some .globalImplicit)
def setB (c : Ctx) (i : Nat) (x : Str) : Bool := decide (c.N[i]? = some x) && (match c.sc.names.lookup x with
  | some .local => true
  | some .cell => c.fn x
  | _ => false)
def plainNm (x : Str) : Bool := !(x == ("__debug__" : Str)) && !(x == ("__classdict__" : Str))
def bltB (c : Ctx) (x : String) : Bool := glB c (Str.ofString x) && c.free.contains x
def blkCtx (c : Ctx) (scope : Scope) : Ctx := { c with sc := relS scope c.sc, fn := fun x => scope.names.lookup x == some .cell }
def ownOf (c : Ctx) (own : List Nat) : List (Str × Nat) := own.map fun i => (c.N.getD i ("" : Str), i)
/-- names that are set, one behind another -/
def okNames (c : Ctx) : List Nat → List Expr → Bool
  | [], [] => true
  | i :: is, .Name x _ :: es => setB c i x && okNames c is es
  | _, _ => false
def okTg (c : Ctx) (t : Tg) (e : Expr) : Bool :=
  match t, e with
  | .var i, .Name x _ => setB c i x
  | .tup is, .Tuple es _ _ => okNames c is es
  | .tup2 i is, .Tuple [.Name x _, .Tuple es _ _] _ _ => setB c i x && okNames c is es
  | _, _ => false
/-- a function's name, and a built-in's -/
def prName : P → Option (String × Value)
  | .len => some ("len", .builtin "len")
  | .abs => some ("abs", .builtin "abs")
  | .max2 => some ("max", .builtin "max")
  | .min2 => some ("min", .builtin "min")
  | .str1 => some ("str", .type "str")
  | .int1 => some ("int", .type "int")
  | .list1 => some ("list", .type "list")
  | .tuple1 => some ("tuple", .type "tuple")
  | _ => none
/-- a method's name, its id -/
def prMeth : P → Option (String × String)
  | .split => some ("split", "str.split")
  | .startswith => some ("startswith", "str.startswith")
  | .find => some ("find", "str.find")
  | .append => some ("append", "list.append")
  | _ => none
def isLit (x : Str) (s : String) : Bool := decide (x = Str.ofString s)
def plainTest : Expr → Bool
  | .UnaryOp .Not _ _ => false
  | .BoolOp _ _ _ => false
  | .IfExp _ _ _ _ => false
  | .Compare _ _ _ _ => false
  | .NamedExpr _ _ _ => false
  | _ => true
def okCst (d : D) (k : Const) : Bool :=
  match d, k with
  | .non, .none => true
  | .bl a, .bool b => decide (a = b)
  | .int i, .int j => decide (i = j)
  | .str x, .str s => decide (s = ⟨x.toArray⟩)
  | _, _ => false
def isNon : IE → Bool
  | .cst .non => true
  | _ => false
def isYes : IE → Bool
  | .cst (.bl true) => true
  | _ => false
def noBl : D → Bool
  | .bl _ => false
  | _ => true
mutual
/-- md: as a test -/
def okE (c : Ctx) : Bool → IE → Expr → Bool
  | md, .cst d, e => (!md || (plainTest e && noBl d)) && (match e with
    | .Constant k _ _ => okCst d k
    | _ => false)
  | md, .glo x d, e => (!md || plainTest e) && (match e with
    | .Name y _ => isLit y x && glB c y && plainNm y && c.cs.contains (x, d)
    | _ => false)
  | md, .var i, e => (!md || plainTest e) && (match e with
    | .Name x _ => decide (c.N[i]? = some x) && visB c x && plainNm x
    | _ => false)
  | md, .bin op _ a b, e => (!md || plainTest e) && (match e with
    | .BinOp e1 o e2 _ => decide (o = bop op) && okE c false a e1 && okE c false b e2
    | _ => false)
  | md, .neg a, e => !md && (match e with
    | .UnaryOp .USub e1 _ => okE c false a e1
    | _ => false)
  | _, .cmp op a b, e => (match e with
    | .Compare e1 [o] [e2] _ => decide (o = cop op) && tame e2 && okE c false a e1 && okE c false b e2
    | _ => false)
  | _, .cmp2 op op' a b d, e => (match e with
    | .Compare e1 [o, o'] [e2, e3] _ => decide (o = cop op) && decide (o' = cop op') && tame e3 && okE c false a e1 && okE c false b e2 && okE c false d e3
    | _ => false)
  | md, .andE a b, e => (match e with
    | .BoolOp .And (e1 :: e2 :: es) pos => okE c md a e1 && (match es with
      | [] => okE c md b e2
      | e3 :: es => okE c md b (.BoolOp .And (e2 :: e3 :: es) pos))
    | _ => false)
  | md, .orE a b, e => (match e with
    | .BoolOp .Or (e1 :: e2 :: es) pos => okE c md a e1 && (match es with
      | [] => okE c md b e2
      | e3 :: es => okE c md b (.BoolOp .Or (e2 :: e3 :: es) pos))
    | _ => false)
  | md, .notE a, e => (match e with
    | .UnaryOp .Not e1 _ => okE c md a e1
    | _ => false)
  | md, .ite t a b, e => !md && (match e with
    | .IfExp e1 e2 e3 _ => okE c true t e1 && okE c false a e2 && okE c false b e3
    | _ => false)
  | md, .tup as, e => !md && (match e with
    | .Tuple es _ _ => decide (as.len ≤ 1000) && okEs c as es
    | _ => false)
  | md, .lst _ as, e => !md && (match e with
    | .List es _ => decide (as.len ≤ 1000) && okEs c as es
    | _ => false)
  | md, .idx a b, e => (!md || plainTest e) && (match e with
    | .Subscript e1 e2 _ => tame e2 && okE c false a e1 && okE c false b e2
    | _ => false)
  | md, .slc _ a lo hi, e => (!md || plainTest e) && (match e with
    | .Subscript e1 (.Slice l h none _) _ => okE c false a e1 && (match l with
      | some l => okE c false lo l
      | none => isNon lo) && (match h with
      | some h => okE c false hi h
      | none => isNon hi)
    | _ => false)
  | md, .call _ f as, e => (!md || plainTest e) && (match e with
    | .Call (.Name x _) es [] _ => isLit x f && c.fs.contains f && glB c x && plainNm x && es.all tame && okEs c as es
    | _ => false)
  | md, .prim p _ as, e => (!md || plainTest e) && (match e with
    | .Call (.Name x _) es [] _ => (match prName p with
      | some (n, _) => isLit x n && bltB c n && es.all tame && !es.isEmpty && okEs c as es
      | none => false)
    | .Call (.Attribute e1 x apos) es [] pos => (match prMeth p with
      | some (n, _) => isLit x n && noSup e1 && (apos.endLine == pos.line) && es.all tame && decide (es.length < 20) && okEs c as (e1 :: es)
      | none => false)
    | _ => false)
  | md, .lc _ own t it cd el, e => (!md || plainTest e) && (match e with
    | .ListComp elt [⟨tg, iter, ifs, k⟩] scope _ => decide (k = 0) && blkC c.N c.sc scope (ownOf c own) && t.slots.all (fun i => own.contains i) && tame iter && okTg (blkCtx c scope) t tg && okIt c it tg iter && okE (blkCtx c scope) false el elt &&
      (match ifs with
      | [] => isYes cd
      | [e1] => okE (blkCtx c scope) true cd e1
      | _ => false)
    | _ => false)
  | md, .isin a cs, e => (!md || plainTest e) && (match e with
    | .Call (.Name x _) [e1, .Name y _] [] _ => (match cs with
      | [n] => isLit x "isinstance" && bltB c "isinstance" && isLit y n && bltB c n && someTypes.contains n && tame e1 && okE c false a e1
      | _ => false)
    | _ => false)
  | _, _, _ => false
def okEs (c : Ctx) : IEs → List Expr → Bool
  | .nil, [] => true
  | .cons a r, e :: es => tame e && okE c false a e && okEs c r es
  | _, _ => false
def okIt (c : Ctx) : VI.It → Expr → Expr → Bool
  | .seq a, _, e => okE c false a e
  | .range1 a, _, e => (match e with
    | .Call (.Name x _) [e1] [] _ => isLit x "range" && bltB c "range" && tame e1 && okE c false a e1
    | _ => false)
  | .range2 a b, _, e => (match e with
    | .Call (.Name x _) [e1, e2] [] _ => isLit x "range" && bltB c "range" && tame e1 && tame e2 && okE c false a e1 && okE c false b e2
    | _ => false)
  | .enum a k, tg, e => (match tg, e with
    | .Tuple _ _ _, .Call (.Name x _) [e1] [] _ => isLit x "enumerate" && bltB c "enumerate" && decide (k = 0) && tame e1 && okE c false a e1
    | _, _ => false)
  | _, _, _ => false
end
end VI

/-! VId1e: the check, unfolded (printed by mkeqs.py from VId1). -/
namespace VI
open PySem PySem.Spec PyProof.Rows L2
theorem okE_cst (c : Ctx) (md : Bool) (d : D) (e : Expr) : okE c md (.cst d) e = ((!md || (plainTest e && noBl d)) && (match e with
    | .Constant k _ _ => okCst d k
    | _ => false)) := rfl
theorem okE_glo (c : Ctx) (md : Bool) (x : String) (d : D) (e : Expr) : okE c md (.glo x d) e = ((!md || plainTest e) && (match e with
    | .Name y _ => isLit y x && glB c y && plainNm y && c.cs.contains (x, d)
    | _ => false)) := rfl
theorem okE_var (c : Ctx) (md : Bool) (i : Nat) (e : Expr) : okE c md (.var i) e = ((!md || plainTest e) && (match e with
    | .Name x _ => decide (c.N[i]? = some x) && visB c x && plainNm x
    | _ => false)) := rfl
theorem okE_bin (c : Ctx) (md : Bool) (op : BOp) (u0 : Bool) (a : IE) (b : IE) (e : Expr) : okE c md (.bin op u0 a b) e = ((!md || plainTest e) && (match e with
    | .BinOp e1 o e2 _ => decide (o = bop op) && okE c false a e1 && okE c false b e2
    | _ => false)) := rfl
theorem okE_neg (c : Ctx) (md : Bool) (a : IE) (e : Expr) : okE c md (.neg a) e = (!md && (match e with
    | .UnaryOp .USub e1 _ => okE c false a e1
    | _ => false)) := rfl
theorem okE_cmp (c : Ctx) (w0 : Bool) (op : COp) (a : IE) (b : IE) (e : Expr) : okE c w0 (.cmp op a b) e = ((match e with
    | .Compare e1 [o] [e2] _ => decide (o = cop op) && tame e2 && okE c false a e1 && okE c false b e2
    | _ => false)) := rfl
theorem okE_cmp2 (c : Ctx) (w0 : Bool) (op : COp) (op' : COp) (a : IE) (b : IE) (d : IE) (e : Expr) : okE c w0 (.cmp2 op op' a b d) e = ((match e with
    | .Compare e1 [o, o'] [e2, e3] _ => decide (o = cop op) && decide (o' = cop op') && tame e3 && okE c false a e1 && okE c false b e2 && okE c false d e3
    | _ => false)) := rfl
theorem okE_andE (c : Ctx) (md : Bool) (a : IE) (b : IE) (e : Expr) : okE c md (.andE a b) e = ((match e with
    | .BoolOp .And (e1 :: e2 :: es) pos => okE c md a e1 && (match es with
      | [] => okE c md b e2
      | e3 :: es => okE c md b (.BoolOp .And (e2 :: e3 :: es) pos))
    | _ => false)) := rfl
theorem okE_orE (c : Ctx) (md : Bool) (a : IE) (b : IE) (e : Expr) : okE c md (.orE a b) e = ((match e with
    | .BoolOp .Or (e1 :: e2 :: es) pos => okE c md a e1 && (match es with
      | [] => okE c md b e2
      | e3 :: es => okE c md b (.BoolOp .Or (e2 :: e3 :: es) pos))
    | _ => false)) := rfl
theorem okE_notE (c : Ctx) (md : Bool) (a : IE) (e : Expr) : okE c md (.notE a) e = ((match e with
    | .UnaryOp .Not e1 _ => okE c md a e1
    | _ => false)) := rfl
theorem okE_ite (c : Ctx) (md : Bool) (t : IE) (a : IE) (b : IE) (e : Expr) : okE c md (.ite t a b) e = (!md && (match e with
    | .IfExp e1 e2 e3 _ => okE c true t e1 && okE c false a e2 && okE c false b e3
    | _ => false)) := rfl
theorem okE_tup (c : Ctx) (md : Bool) (as : IEs) (e : Expr) : okE c md (.tup as) e = (!md && (match e with
    | .Tuple es _ _ => decide (as.len ≤ 1000) && okEs c as es
    | _ => false)) := rfl
theorem okE_lst (c : Ctx) (md : Bool) (u0 : Bool) (as : IEs) (e : Expr) : okE c md (.lst u0 as) e = (!md && (match e with
    | .List es _ => decide (as.len ≤ 1000) && okEs c as es
    | _ => false)) := rfl
theorem okE_idx (c : Ctx) (md : Bool) (a : IE) (b : IE) (e : Expr) : okE c md (.idx a b) e = ((!md || plainTest e) && (match e with
    | .Subscript e1 e2 _ => tame e2 && okE c false a e1 && okE c false b e2
    | _ => false)) := rfl
theorem okE_slc (c : Ctx) (md : Bool) (u0 : Bool) (a : IE) (lo : IE) (hi : IE) (e : Expr) : okE c md (.slc u0 a lo hi) e = ((!md || plainTest e) && (match e with
    | .Subscript e1 (.Slice l h none _) _ => okE c false a e1 && (match l with
      | some l => okE c false lo l
      | none => isNon lo) && (match h with
      | some h => okE c false hi h
      | none => isNon hi)
    | _ => false)) := rfl
theorem okE_call (c : Ctx) (md : Bool) (u0 : Bool) (f : String) (as : IEs) (e : Expr) : okE c md (.call u0 f as) e = ((!md || plainTest e) && (match e with
    | .Call (.Name x _) es [] _ => isLit x f && c.fs.contains f && glB c x && plainNm x && es.all tame && okEs c as es
    | _ => false)) := rfl
theorem okE_prim (c : Ctx) (md : Bool) (p : P) (u0 : Bool) (as : IEs) (e : Expr) : okE c md (.prim p u0 as) e = ((!md || plainTest e) && (match e with
    | .Call (.Name x _) es [] _ => (match prName p with
      | some (n, _) => isLit x n && bltB c n && es.all tame && !es.isEmpty && okEs c as es
      | none => false)
    | .Call (.Attribute e1 x apos) es [] pos => (match prMeth p with
      | some (n, _) => isLit x n && noSup e1 && (apos.endLine == pos.line) && es.all tame && decide (es.length < 20) && okEs c as (e1 :: es)
      | none => false)
    | _ => false)) := rfl
theorem okE_lc (c : Ctx) (md : Bool) (u0 : Bool) (own : List Nat) (t : Tg) (it : VI.It) (cd : IE) (el : IE) (e : Expr) : okE c md (.lc u0 own t it cd el) e = ((!md || plainTest e) && (match e with
    | .ListComp elt [⟨tg, iter, ifs, k⟩] scope _ => decide (k = 0) && blkC c.N c.sc scope (ownOf c own) && t.slots.all (fun i => own.contains i) && tame iter && okTg (blkCtx c scope) t tg && okIt c it tg iter && okE (blkCtx c scope) false el elt &&
      (match ifs with
      | [] => isYes cd
      | [e1] => okE (blkCtx c scope) true cd e1
      | _ => false)
    | _ => false)) := rfl
theorem okE_isin (c : Ctx) (md : Bool) (a : IE) (cs : List String) (e : Expr) : okE c md (.isin a cs) e = ((!md || plainTest e) && (match e with
    | .Call (.Name x _) [e1, .Name y _] [] _ => (match cs with
      | [n] => isLit x "isinstance" && bltB c "isinstance" && isLit y n && bltB c n && someTypes.contains n && tame e1 && okE c false a e1
      | _ => false)
    | _ => false)) := rfl
theorem okIt_seq (c : Ctx) (a : IE) (w1 : Expr) (e : Expr) : okIt c (.seq a) w1 e = (okE c false a e) := rfl
theorem okIt_range1 (c : Ctx) (a : IE) (w1 : Expr) (e : Expr) : okIt c (.range1 a) w1 e = ((match e with
    | .Call (.Name x _) [e1] [] _ => isLit x "range" && bltB c "range" && tame e1 && okE c false a e1
    | _ => false)) := rfl
theorem okIt_range2 (c : Ctx) (a : IE) (b : IE) (w1 : Expr) (e : Expr) : okIt c (.range2 a b) w1 e = ((match e with
    | .Call (.Name x _) [e1, e2] [] _ => isLit x "range" && bltB c "range" && tame e1 && tame e2 && okE c false a e1 && okE c false b e2
    | _ => false)) := rfl
theorem okIt_enum (c : Ctx) (a : IE) (k : Int) (tg : Expr) (e : Expr) : okIt c (.enum a k) tg e = ((match tg, e with
    | .Tuple _ _ _, .Call (.Name x _) [e1] [] _ => isLit x "enumerate" && bltB c "enumerate" && decide (k = 0) && tame e1 && okE c false a e1
    | _, _ => false)) := rfl
end VI

/-! VId2: the check is sound: expressions. -/
namespace VI
open PySem PySem.Spec PyProof.Rows L2
/-- what a context knows -/
structure Good (C : Cal) (k : Nat) (X : Cx) (c : Ctx) : Prop where
  hN : X.N = c.N
  nd : c.N.Nodup
  sc : X.env.scope = c.sc
  fn : X.fn = c.fn
  calm : X.calm = true
  room : Room k X.A
  pos : 1 ≤ k
  free : ∀ x ∈ c.free, X.mg (Str.ofString x) = none
  cs : ∀ q ∈ c.cs, ∃ u v, X.mg (Str.ofString q.1) = some u ∧ RelV v u ∧ ∀ Z β, RepV X.prog X.w X.K Z β q.2 v
  fs : ∀ f ∈ c.fs, FnHyp X.prog X.w X.K X.mg X.base C k f
section
variable {C : Cal} {k : Nat} {X : Cx} {c : Ctx} {W : WX}
theorem Good.units (G : Good C k X c) : X.A.units + 65 < cLine := by
  have := G.room.un
  omega
theorem Good.gl (G : Good C k X c) {x : Str} (h : glB c x = true) : Gl X x := by
  show X.env.scope.names.lookup x = _
  rw [G.sc]
  exact of_decide_eq_true h
theorem Good.vis (G : Good C k X c) {x : Str} (h : visB c x = true) : Vis X.env.scope x := by
  unfold visB at h
  unfold Vis
  rw [G.sc]
  split at h
  · exact .inl (by assumption)
  · exact .inr (.inl (by assumption))
  · exact .inr (.inr (by assumption))
  · cases h
theorem Good.set (G : Good C k X c) {i : Nat} {x : Str} (h : setB c i x = true) : Sets X i x := by
  unfold setB at h
  simp only [Bool.and_eq_true, decide_eq_true_eq] at h
  obtain ⟨h1, h2⟩ := h
  refine ⟨by rw [G.hN]; exact G.nd, by rw [G.hN]; exact h1, ?_, ?_⟩
  · unfold L2.Loc
    rw [G.sc]
    split at h2
    · exact .inl (by assumption)
    · exact .inr (by assumption)
    · cases h2
  · rw [G.sc, G.fn]
    split at h2
    · exact .inr (by assumption)
    · exact .inl h2
    · cases h2
theorem lit {x : Str} {s : String} (h : isLit x s = true) : x = Str.ofString s := of_decide_eq_true h
theorem plainNm_ok {x : Str} (h : plainNm x = true) : (x == ("__debug__" : Str)) = false ∧ (x == ("__classdict__" : Str)) = false := by
  unfold plainNm at h
  simp only [Bool.and_eq_true, Bool.not_eq_true'] at h
  exact h
theorem Good.blt (G : Good C k X c) {x : String} (h : bltB c x = true) : Gl X (Str.ofString x) ∧ X.mg (Str.ofString x) = none := by
  unfold bltB at h
  simp only [Bool.and_eq_true] at h
  exact ⟨G.gl h.1, G.free x (by simpa using h.2)⟩
theorem prName_ok {p : P} {n : String} {v : Value} (h : prName p = some (n, v)) : isMeth p = false ∧ bootBuiltins (Str.ofString n) = some v ∧ Str.ofString n ≠ "__name__" ∧ (Str.ofString n == ("__debug__" : Str)) = false ∧
    ∀ (X : Cx) (m : Bool), X.A.units + 65 < cLine → X.calm = true → CallR X v (rP X p m) := by
  unfold prName at h
  split at h
  · cases h; exact ⟨rfl, by decide +kernel, by decide +kernel, by decide +kernel, fun X m _ _ => c_len⟩
  · cases h; exact ⟨rfl, by decide +kernel, by decide +kernel, by decide +kernel, fun X m _ _ => c_abs⟩
  · cases h; exact ⟨rfl, by decide +kernel, by decide +kernel, by decide +kernel, fun X m _ hc => c_max2 hc⟩
  · cases h; exact ⟨rfl, by decide +kernel, by decide +kernel, by decide +kernel, fun X m _ hc => c_min2 hc⟩
  · cases h; exact ⟨rfl, by decide +kernel, by decide +kernel, by decide +kernel, fun X m _ _ => c_str1⟩
  · cases h; exact ⟨rfl, by decide +kernel, by decide +kernel, by decide +kernel, fun X m _ _ => c_int1⟩
  · cases h; exact ⟨rfl, by decide +kernel, by decide +kernel, by decide +kernel, fun X m _ _ => c_list1⟩
  · cases h; exact ⟨rfl, by decide +kernel, by decide +kernel, by decide +kernel, fun X m _ _ => c_tuple1⟩
  · cases h
theorem prMeth_ok {p : P} {n id : String} (h : prMeth p = some (n, id)) : isMeth p = true ∧ PlainAttrs (recvT p) ∧ Slot (recvT p) (Str.ofString n) id ∧ typeOf (.builtin id) = pure (.type "method_descriptor") ∧
    ∀ (X : Cx) (m : Bool), X.A.units + 65 < cLine → X.calm = true → MtR X id (rM X p m) := by
  unfold prMeth at h
  split at h
  · cases h; exact ⟨rfl, PySem.F.plainAttrs_str, F.slot_str_split, F.type_str_split, fun X m _ _ => m_split⟩
  · cases h; exact ⟨rfl, PySem.F.plainAttrs_str, F.slot_str_startswith, F.type_str_startswith, fun X m _ _ => m_startswith⟩
  · cases h; exact ⟨rfl, PySem.F.plainAttrs_str, F.slot_str_find, F.type_str_find, fun X m _ _ => m_find⟩
  · cases h; exact ⟨rfl, PySem.F.plainAttrs_list, F.slot_list_append, F.type_list_append, fun X m _ _ => m_append⟩
  · cases h
theorem blk_good (G : Good C k X c) (s : Shared) (H : Hp) (scope : Scope) (A : Addr) (cl : List (Str × Addr)) (fp : List Addr) : Good C k (X.blk s H scope (compEnvC scope cl A X.env) fp) (blkCtx c scope) := by
  refine ⟨G.hN, G.nd, ?_, rfl, G.calm, G.room, G.pos, G.free, G.cs, G.fs⟩
  show relS scope X.env.scope = relS scope c.sc
  rw [G.sc]
theorem takes_blk (s : Shared) (H : Hp) (scope : Scope) (env : Env) (fp : List Addr) : Takes (X.blk s H scope env fp) (fun _ _ _ _ => False) := fun u s' ⟨a, B, sI, pins, σ, H', cls, d, _, _, _, _, _, _, _, _, w⟩ => w
theorem names_ok (G : Good C k X c) : ∀ {is : List Nat} {es : List Expr}, okNames c is es = true → names es = true ∧ es.length = is.length ∧ PGs X es (xGs X.prog X.w X.K X.mg is)
  | [], [], _ => ⟨rfl, rfl, gs_nil⟩
  | i :: is, e :: es, h => by
    cases e with
    | Name x p =>
      simp only [okNames, Bool.and_eq_true] at h
      obtain ⟨h1, h2, h3⟩ := names_ok G h.2
      refine ⟨?_, by simp [h2], gs_cons (G.set h.1) h3⟩
      simp only [names, List.all_cons, Bool.and_eq_true]
      exact ⟨trivial, h1⟩
    | _ => cases h
  | [], _ :: _, h => by cases h
  | _ :: _, [], h => by cases h
theorem tg_ok (G : Good C k X c) {t : Tg} {e : Expr} (h : okTg c t e = true) : PG X e (xG X.prog X.w X.K X.mg t) := by
  unfold okTg at h
  split at h
  · exact g_var (G.set h)
  · obtain ⟨h1, h2, h3⟩ := names_ok G h
    exact g_tup G.calm h1 h2 h3
  · simp only [Bool.and_eq_true] at h
    obtain ⟨h1, h2, h3⟩ := names_ok G h.2
    exact g_tup2 G.calm (G.set h.1) h1 h2 h3
  · cases h
theorem plain_test {e : Expr} (h : plainTest e = true) (env : Env) : ∀ whole, PySem.isTrue e env whole = (do let v ← whole; standAt e.pos; holding [v] (truthy v)) := by
  intro whole
  cases e <;> first
    | rfl
    | (cases h; done)
    | (rename_i op _ _; cases op <;> first | rfl | cases h)
theorem own_map (c : Ctx) (own : List Nat) : (ownOf c own).map (·.2) = own := by
  unfold ownOf
  rw [List.map_map]
  exact List.map_id' own
/-- as an expression, or as a test -/
def Snd (X : Cx) (C : Cal) (W : WX) (md : Bool) (a : IE) (e : Expr) : Prop := (md = false → PE X e (xE X C W a)) ∧ (md = true → PT X e (xT X C W a))
theorem snd_of {md : Bool} {a : IE} {e : Expr} (h : (!md || plainTest e) = true) (hd : ∀ ρ U, evB C a ρ U = bnd (ev C a ρ U) fun x U1 => tru x U1) (p : PE X e (xE X C W a)) : Snd X C W md a e := by
  refine ⟨fun _ => p, fun e1 => ?_⟩
  subst e1
  exact n_test hd (plain_test (by simpa using h) X.env) p
theorem non_is {a : IE} (h : isNon a = true) : a = .cst .non := by
  unfold isNon at h
  split at h
  · rfl
  · cases h
theorem yes_is {a : IE} (h : isYes a = true) : a = .cst (.bl true) := by
  unfold isYes at h
  split at h
  · rfl
  · cases h
theorem cst_ok {d : D} {kc : Const} {j : Nat} {p : Pos} (h : okCst d kc = true) : PE X (.Constant kc j p) (xE X C W (.cst d)) := by
  unfold okCst at h
  split at h
  · exact n_cst pe_non fun Z β => by simp only [RepV]
  · have := of_decide_eq_true h
    subst this
    exact n_cst pe_bl fun Z β => by simp only [RepV]
  · have := of_decide_eq_true h
    subst this
    exact n_cst pe_int fun Z β => by simp only [RepV]
  · have := of_decide_eq_true h
    subst this
    exact n_cst pe_str fun Z β => by simp only [RepV]
  · cases h
end
mutual
theorem sE : ∀ (a : IE) {C : Cal} {k : Nat} {X : Cx} {c : Ctx} {W : WX} {md : Bool} {e : Expr}, Good C k X c → Takes X W → okE c md a e = true → Snd X C W md a e
  | .cst d, C, k, X, c, W, md, e, G, tk, h => by
    rw [okE_cst, Bool.and_eq_true] at h
    obtain ⟨h1, h2⟩ := h
    split at h2
    · refine ⟨fun _ => cst_ok h2, fun e1 => ?_⟩
      subst e1
      simp only [Bool.not_true, Bool.false_or, Bool.and_eq_true] at h1
      refine n_test (fun ρ U => ?_) (plain_test h1.1 X.env) (cst_ok h2)
      cases d <;> first | (simp only [evB]; done) | exact absurd h1.2 (by simp [noBl])
    · cases h2
  | .glo x d, C, k, X, c, W, md, e, G, tk, h => by
    rw [okE_glo, Bool.and_eq_true] at h
    obtain ⟨h1, h2⟩ := h
    split at h2
    · simp only [Bool.and_eq_true] at h2
      obtain ⟨⟨⟨l, g⟩, pn⟩, hc⟩ := h2
      have l := lit l
      subst l
      obtain ⟨u, v, hm, r, hr⟩ := G.cs (x, d) (by simpa using hc)
      exact snd_of h1 (fun ρ U => by simp only [evB]) (n_glo (pe_glob (G.gl g) hm r (plainNm_ok pn).1) hr)
    · cases h2
  | .var i, C, k, X, c, W, md, e, G, tk, h => by
    rw [okE_var, Bool.and_eq_true] at h
    obtain ⟨h1, h2⟩ := h
    split at h2
    · simp only [Bool.and_eq_true, decide_eq_true_eq] at h2
      exact snd_of h1 (fun ρ U => by simp only [evB]) (n_var (by rw [G.hN]; exact h2.1.1) (G.vis h2.1.2) (plainNm_ok h2.2).1 (plainNm_ok h2.2).2)
    · cases h2
  | .bin op m a b, C, k, X, c, W, md, e, G, tk, h => by
    rw [okE_bin, Bool.and_eq_true] at h
    obtain ⟨h1, h2⟩ := h
    split at h2
    · simp only [Bool.and_eq_true, decide_eq_true_eq] at h2
      obtain ⟨⟨rfl, h3⟩, h4⟩ := h2
      exact snd_of h1 (fun ρ U => by simp only [evB]) (n_bin op m ((sE a G tk h3).1 rfl) ((sE b G tk h4).1 rfl))
    · cases h2
  | .neg a, C, k, X, c, W, md, e, G, tk, h => by
    rw [okE_neg, Bool.and_eq_true] at h
    obtain ⟨h1, h2⟩ := h
    split at h2
    · exact ⟨fun _ => n_neg ((sE a G tk h2).1 rfl), fun e1 => by subst e1; cases h1⟩
    · cases h2
  | .cmp op a b, C, k, X, c, W, md, e, G, tk, h => by
    rw [okE_cmp] at h
    split at h
    · simp only [Bool.and_eq_true, decide_eq_true_eq] at h
      obtain ⟨⟨⟨rfl, ht⟩, h3⟩, h4⟩ := h
      exact ⟨fun _ => n_cmp G.units op ht ((sE a G tk h3).1 rfl) ((sE b G tk h4).1 rfl), fun _ => n_cmpT G.units op ht ((sE a G tk h3).1 rfl) ((sE b G tk h4).1 rfl)⟩
    · cases h
  | .cmp2 op op' a b d, C, k, X, c, W, md, e, G, tk, h => by
    rw [okE_cmp2] at h
    split at h
    · simp only [Bool.and_eq_true, decide_eq_true_eq] at h
      obtain ⟨⟨⟨⟨⟨rfl, rfl⟩, ht⟩, h3⟩, h4⟩, h5⟩ := h
      exact ⟨fun _ => n_cmp2 G.units op op' ht ((sE a G tk h3).1 rfl) ((sE b G tk h4).1 rfl) ((sE d G tk h5).1 rfl), fun _ => n_cmp2T G.units op op' ht ((sE a G tk h3).1 rfl) ((sE b G tk h4).1 rfl) ((sE d G tk h5).1 rfl)⟩
    · cases h
  | .andE a b, C, k, X, c, W, md, e, G, tk, h => by
    rw [okE_andE] at h
    split at h
    · rename_i e1 e2 es pos
      simp only [Bool.and_eq_true] at h
      obtain ⟨h3, h4⟩ := h
      have ha := sE a G tk h3
      have hb : Snd X C W md b (.BoolOp .And (e2 :: es) pos) := by
        cases es with
        | nil =>
          have q := sE b G tk h4
          exact ⟨fun z => pe_one (q.1 z), fun z => (pw_and1 (q.2 z)).pt⟩
        | cons e3 es => exact sE b G tk h4
      exact ⟨fun z => n_and (ha.1 z) (hb.1 z), fun z => n_andT (ha.2 z) (pw_of (hb.2 z))⟩
    · cases h
  | .orE a b, C, k, X, c, W, md, e, G, tk, h => by
    rw [okE_orE] at h
    split at h
    · rename_i e1 e2 es pos
      simp only [Bool.and_eq_true] at h
      obtain ⟨h3, h4⟩ := h
      have ha := sE a G tk h3
      have hb : Snd X C W md b (.BoolOp .Or (e2 :: es) pos) := by
        cases es with
        | nil =>
          have q := sE b G tk h4
          exact ⟨fun z => pe_one (q.1 z), fun z => (pw_or1 (q.2 z)).pt⟩
        | cons e3 es => exact sE b G tk h4
      exact ⟨fun z => n_or (ha.1 z) (hb.1 z), fun z => n_orT (ha.2 z) (pw_of (hb.2 z))⟩
    · cases h
  | .notE a, C, k, X, c, W, md, e, G, tk, h => by
    rw [okE_notE] at h
    split at h
    · have ha := sE a G tk h
      exact ⟨fun z => n_not (ha.1 z), fun z => n_notT (ha.2 z)⟩
    · cases h
  | .ite t a b, C, k, X, c, W, md, e, G, tk, h => by
    rw [okE_ite, Bool.and_eq_true] at h
    obtain ⟨h1, h2⟩ := h
    split at h2
    · simp only [Bool.and_eq_true] at h2
      exact ⟨fun _ => n_ite ((sE t G tk h2.1.1).2 rfl) ((sE a G tk h2.1.2).1 rfl) ((sE b G tk h2.2).1 rfl), fun e1 => by subst e1; cases h1⟩
    · cases h2
  | .tup as, C, k, X, c, W, md, e, G, tk, h => by
    rw [okE_tup, Bool.and_eq_true] at h
    obtain ⟨h1, h2⟩ := h
    split at h2
    · simp only [Bool.and_eq_true, decide_eq_true_eq] at h2
      exact ⟨fun _ => n_tup h2.1 (sEs as G tk h2.2), fun e1 => by subst e1; cases h1⟩
    · cases h2
  | .lst m as, C, k, X, c, W, md, e, G, tk, h => by
    rw [okE_lst, Bool.and_eq_true] at h
    obtain ⟨h1, h2⟩ := h
    split at h2
    · simp only [Bool.and_eq_true, decide_eq_true_eq] at h2
      exact ⟨fun _ => n_lst h2.1 (sEs as G tk h2.2), fun e1 => by subst e1; cases h1⟩
    · cases h2
  | .idx a b, C, k, X, c, W, md, e, G, tk, h => by
    rw [okE_idx, Bool.and_eq_true] at h
    obtain ⟨h1, h2⟩ := h
    split at h2
    · simp only [Bool.and_eq_true] at h2
      exact snd_of h1 (fun ρ U => by simp only [evB]) (n_idx (by have := G.units; omega) h2.1.1 ((sE a G tk h2.1.2).1 rfl) ((sE b G tk h2.2).1 rfl))
    · cases h2
  | .slc m a lo hi, C, k, X, c, W, md, e, G, tk, h => by
    rw [okE_slc, Bool.and_eq_true] at h
    obtain ⟨h1, h2⟩ := h
    split at h2
    · rename_i e1 l hh p1 p2
      simp only [Bool.and_eq_true] at h2
      obtain ⟨⟨h3, h4⟩, h5⟩ := h2
      have hl : PO X l (xO X C W lo) := by
        cases l with
        | none =>
          rw [non_is h4]
          exact n_none
        | some l => exact n_some ((sE lo G tk h4).1 rfl)
      have hh : PO X hh (xO X C W hi) := by
        cases hh with
        | none =>
          rw [non_is h5]
          exact n_none
        | some l => exact n_some ((sE hi G tk h5).1 rfl)
      exact snd_of h1 (fun ρ U => by simp only [evB]) (n_slc ((sE a G tk h3).1 rfl) hl hh)
    · cases h2
  | .call fz f as, C, k, X, c, W, md, e, G, tk, h => by
    rw [okE_call, Bool.and_eq_true] at h
    obtain ⟨h1, h2⟩ := h
    split at h2
    · rename_i x p es pos
      simp only [Bool.and_eq_true] at h2
      obtain ⟨⟨⟨⟨⟨l, hf⟩, g⟩, pn⟩, ht⟩, h3⟩ := h2
      have l := lit l
      subst l
      have F := G.fs f (by simpa using hf)
      have ha := sEs as G tk h3
      cases es with
      | nil =>
        cases as with
        | nil => exact snd_of h1 (fun ρ U => by simp only [evB]) (n_call0 tk G.room (G.gl g) F (plainNm_ok pn).1)
        | cons a r => cases h3
      | cons e es => exact snd_of h1 (fun ρ U => by simp only [evB]) (n_call tk G.room (G.gl g) F (plainNm_ok pn).1 ht ha)
    · cases h2
  | .prim p m as, C, k, X, c, W, md, e, G, tk, h => by
    rw [okE_prim, Bool.and_eq_true] at h
    obtain ⟨h1, h2⟩ := h
    split at h2
    · rename_i x p1 es pos
      split at h2
      · rename_i n v hn
        simp only [Bool.and_eq_true] at h2
        obtain ⟨⟨⟨⟨l, hb⟩, ht⟩, hne⟩, h3⟩ := h2
        have l := lit l
        subst l
        obtain ⟨q1, q2, q3, q4, q5⟩ := prName_ok hn
        obtain ⟨g1, g2⟩ := G.blt hb
        have ha := sEs as G tk h3
        cases es with
        | nil => cases hne
        | cons e es =>
          cases as with
          | nil => cases h3
          | cons a r =>
            refine snd_of h1 (fun ρ U => by simp only [evB]) ?_
            have q := q5 X m G.units G.calm
            cases v with
            | builtin id => exact n_fun q q1 g1 g2 q2 q3 q4 ht ha
            | type T => exact n_ty q q1 g1 g2 q2 q3 q4 ht ha
            | _ => exact absurd hn (by unfold prName; split <;> simp)
      · cases h2
    · rename_i e1 x apos es pos
      split at h2
      · rename_i n id hn
        simp only [Bool.and_eq_true, decide_eq_true_eq] at h2
        obtain ⟨⟨⟨⟨⟨l, hs⟩, hl⟩, ht⟩, hlen⟩, h3⟩ := h2
        have l := lit l
        subst l
        obtain ⟨q1, q2, q3, q4, q5⟩ := prMeth_ok hn
        cases as with
        | nil => cases h3
        | cons a r =>
          simp only [okEs, Bool.and_eq_true] at h3
          have ha := (sE a G tk h3.1.2).1 rfl
          have hr := sEs r G tk h3.2
          refine snd_of h1 (fun ρ U => by simp only [evB]) ?_
          have q := q5 X m G.units G.calm
          cases es with
          | nil =>
            cases r with
            | nil => exact n_meth0 q1 q2 q3 q4 q hs hl ha
            | cons b r => exact absurd h3.2 (by simp [okEs])
          | cons e es => exact n_meth q1 q2 q3 q4 q hs hl ht hlen ha hr
      · cases h2
    · cases h2
  | .lc m own t it cd el, C, k, X, c, W, md, e, G, tk, h => by
    rw [okE_lc, Bool.and_eq_true] at h
    obtain ⟨h1, h2⟩ := h
    split at h2
    · rename_i elt tg iter ifs kk scope pos
      simp only [Bool.and_eq_true, decide_eq_true_eq] at h2
      obtain ⟨⟨⟨⟨⟨⟨⟨rfl, hb⟩, hsl⟩, ht⟩, htg⟩, hit⟩, hel⟩, hif⟩ := h2
      have hi := sI it G tk hit
      have ok : BlkOk X.N X.env.scope scope (ownOf c own) := by
        rw [G.hN, G.sc]
        exact blkOk_by hb
      refine snd_of h1 (fun ρ U => by simp only [evB]) ?_
      have hgB := fun (s : Shared) (H : Hp) (A : Addr) (cl : List (Str × Addr)) (fp : List Addr) => (show PG (X.blk s H scope (compEnvC scope cl A X.env) fp) tg (xG X.prog X.w X.K X.mg t) from tg_ok (blk_good G s H scope A cl fp) htg)
      have hcB := fun (s : Shared) (H : Hp) (A : Addr) (cl : List (Str × Addr)) (fp : List Addr) => (show PTs (X.blk s H scope (compEnvC scope cl A X.env) fp) ifs (tT X.prog X.w X.K X.mg C (fun _ _ _ _ => False) cd) from
        pts_xT (X := X.blk s H scope (compEnvC scope cl A X.env) fp) (by
          cases ifs with
          | nil => exact .inl ⟨rfl, yes_is hif⟩
          | cons e1 r =>
            cases r with
            | nil => exact .inr ⟨e1, rfl, (sE cd (blk_good G s H scope A cl fp) (takes_blk s H scope _ fp) hif).2 rfl⟩
            | cons _ _ => cases hif))
      have heB := fun (s : Shared) (H : Hp) (A : Addr) (cl : List (Str × Addr)) (fp : List Addr) => (show PE (X.blk s H scope (compEnvC scope cl A X.env) fp) elt (tE X.prog X.w X.K X.mg C (fun _ _ _ _ => False) el) from (sE el (blk_good G s H scope A cl fp) (takes_blk s H scope _ fp) hel).1 rfl)
      have hN : X.N.Nodup := by rw [G.hN]; exact G.nd
      have q := n_lc (X := X) (C := C) (W := W) (m := m) (it := it) (tg := tg) (elt := elt) (ifs := ifs) G.calm hN ht hi ok (fun i hi => by
        rw [own_map]
        have := List.all_eq_true.mp hsl i hi
        simpa using this) hgB hcB heB
      rw [own_map] at q
      have p := pe_lc (X := X) G.calm hN hi ok hgB hcB heB (fold_tame ht X.env) (pos := pos)
      rw [own_map] at p
      exact p.imp q
    · cases h2
  | .isin a cs, C, k, X, c, W, md, e, G, tk, h => by
    rw [okE_isin, Bool.and_eq_true] at h
    obtain ⟨h1, h2⟩ := h
    split at h2
    · split at h2
      · simp only [Bool.and_eq_true] at h2
        obtain ⟨⟨⟨⟨⟨⟨l1, b1⟩, l2⟩, b2⟩, hc⟩, ht⟩, h3⟩ := h2
        have l1 := lit l1
        have l2 := lit l2
        subst l1 l2
        obtain ⟨g1, g2⟩ := G.blt b1
        obtain ⟨g3, g4⟩ := G.blt b2
        exact snd_of h1 (fun ρ U => by simp only [evB]) (n_isin (by simpa using hc) g1 g2 g3 g4 ht ((sE a G tk h3).1 rfl))
      · cases h2
    · cases h2
  | .dnil _ _, C, k, X, c, W, md, e, G, tk, h => by first | (cases h; done) | (simp only [okE, okEs, okIt, Bool.and_false, Bool.false_eq_true] at h; done)
  | .done _ _ _ _, C, k, X, c, W, md, e, G, tk, h => by first | (cases h; done) | (simp only [okE, okEs, okIt, Bool.and_false, Bool.false_eq_true] at h; done)
  | .repL _ _ _, C, k, X, c, W, md, e, G, tk, h => by first | (cases h; done) | (simp only [okE, okEs, okIt, Bool.and_false, Bool.false_eq_true] at h; done)
  | .fld _ _, C, k, X, c, W, md, e, G, tk, h => by first | (cases h; done) | (simp only [okE, okEs, okIt, Bool.and_false, Bool.false_eq_true] at h; done)
  | .meth _ _ _ _ _, C, k, X, c, W, md, e, G, tk, h => by first | (cases h; done) | (simp only [okE, okEs, okIt, Bool.and_false, Bool.false_eq_true] at h; done)
  | .make _ _, C, k, X, c, W, md, e, G, tk, h => by first | (cases h; done) | (simp only [okE, okEs, okIt, Bool.and_false, Bool.false_eq_true] at h; done)
  | .sortK _ _ _ _, C, k, X, c, W, md, e, G, tk, h => by first | (cases h; done) | (simp only [okE, okEs, okIt, Bool.and_false, Bool.false_eq_true] at h; done)
  | .minK _ _ _, C, k, X, c, W, md, e, G, tk, h => by first | (cases h; done) | (simp only [okE, okEs, okIt, Bool.and_false, Bool.false_eq_true] at h; done)
theorem sEs : ∀ (as : IEs) {C : Cal} {k : Nat} {X : Cx} {c : Ctx} {W : WX} {es : List Expr}, Good C k X c → Takes X W → okEs c as es = true → PA X es (xA X C W as)
  | .nil, C, k, X, c, W, [], G, tk, h => n_nil
  | .nil, C, k, X, c, W, _ :: _, G, tk, h => by first | (cases h; done) | (simp only [okE, okEs, okIt, Bool.and_false, Bool.false_eq_true] at h; done)
  | .cons a r, C, k, X, c, W, [], G, tk, h => by first | (cases h; done) | (simp only [okE, okEs, okIt, Bool.and_false, Bool.false_eq_true] at h; done)
  | .cons a r, C, k, X, c, W, e :: es, G, tk, h => by
    rw [okEs] at h
    simp only [Bool.and_eq_true] at h
    exact n_cons h.1.1 ((sE a G tk h.1.2).1 rfl) (sEs r G tk h.2)
theorem sI : ∀ (it : VI.It) {C : Cal} {k : Nat} {X : Cx} {c : Ctx} {W : WX} {tg e : Expr}, Good C k X c → Takes X W → okIt c it tg e = true → PI X tg e (xI X C W it)
  | .seq a, C, k, X, c, W, tg, e, G, tk, h => i_seq ((sE a G tk h).1 rfl)
  | .range1 a, C, k, X, c, W, tg, e, G, tk, h => by
    rw [okIt_range1] at h
    split at h
    · simp only [Bool.and_eq_true] at h
      obtain ⟨⟨⟨l, b⟩, ht⟩, h3⟩ := h
      have l := lit l
      subst l
      obtain ⟨g1, g2⟩ := G.blt b
      exact i_range1 g1 g2 ht ((sE a G tk h3).1 rfl)
    · cases h
  | .range2 a b, C, k, X, c, W, tg, e, G, tk, h => by
    rw [okIt_range2] at h
    split at h
    · simp only [Bool.and_eq_true] at h
      obtain ⟨⟨⟨⟨⟨l, bb⟩, ht⟩, ht2⟩, h3⟩, h4⟩ := h
      have l := lit l
      subst l
      obtain ⟨g1, g2⟩ := G.blt bb
      exact i_range2 g1 g2 ht ht2 ((sE a G tk h3).1 rfl) ((sE b G tk h4).1 rfl)
    · cases h
  | .enum a k0, C, k, X, c, W, tg, e, G, tk, h => by
    rw [okIt_enum] at h
    split at h
    · simp only [Bool.and_eq_true, decide_eq_true_eq] at h
      obtain ⟨⟨⟨⟨l, bb⟩, rfl⟩, ht⟩, h3⟩ := h
      have l := lit l
      subst l
      obtain ⟨g1, g2⟩ := G.blt bb
      exact i_enum g1 g2 ht ((sE a G tk h3).1 rfl)
    · cases h
  | .range3 _ _ _, C, k, X, c, W, tg, e, G, tk, h => by first | (cases h; done) | (simp only [okE, okEs, okIt, Bool.and_false, Bool.false_eq_true] at h; done)
  | .zip _ _, C, k, X, c, W, tg, e, G, tk, h => by first | (cases h; done) | (simp only [okE, okEs, okIt, Bool.and_false, Bool.false_eq_true] at h; done)
  | .rev _, C, k, X, c, W, tg, e, G, tk, h => by first | (cases h; done) | (simp only [okE, okEs, okIt, Bool.and_false, Bool.false_eq_true] at h; done)
end
end VI

/-! VId3: the check of statements. -/
namespace VI
open PySem PySem.Spec PyProof.Rows L2
/-- name = [..] on the name's line: stored within the block -/
def swapB (c : Ctx) (scope : Scope) (x : Str) (p q : Pos) : Bool := decide (c.sc.names.lookup x = some .local) && (p.line == q.line) && !(scope.names.any fun (n, k) => n == x && (k == .local || k == .cell))
def isDoc : Stmt → Bool
  | .Expr (.Constant (.str _) _ _) _ => true
  | _ => false
mutual
def okS (c : Ctx) : IS → Stmt → Bool
  | .asg t a, st => (match st with
    | .Assign [.Name x p] e pos => okTg c t (.Name x p) && okE c false a e && (match t with | .var _ => true | _ => false) && (match e with
      | .ListComp elt [⟨tg, iter, ifs, k⟩] scope q => decide (k = 0) && tame iter
      | e => noComp e)
    | .Assign [.Tuple es k p] e pos => okTg c t (.Tuple es k p) && okE c false a e && noTup e
    | _ => false)
  | .aug i op a, st => (match st with
    | .AugAssign (.Name x _) o e _ => decide (o = bop op) && (decide (op = .add) || decide (op = .sub)) && setB c i x && okE c false a e
    | _ => false)
  | .expr a, st => (match st with
    | .Expr e _ => noComp e && okE c false a e
    | _ => false)
  | .ret a, st => (match st with
    | .Return (some e) _ => okE c false a e
    | _ => false)
  | .retN, st => (match st with
    | .Return none _ => true
    | _ => false)
  | .ifS t a b, st => (match st with
    | .If e x y _ => okE c true t e && okSs c a x && okSs c b y
    | _ => false)
  | .forS t it b, st => (match st with
    | .For tg e x [] _ => tame e && okTg c t tg && okIt c it tg e && okSs c b x
    | _ => false)
  | .whileS t b, st => (match st with
    | .While e x [] _ => okE c true t e && okSs c b x
    | _ => false)
  | .brk, st => (match st with
    | .Break _ => true
    | _ => false)
  | .pass, st => (match st with
    | .Pass _ => true
    | _ => false)
  | _, _ => false
/-- docstrings are passed over -/
def okSs (c : Ctx) : ISs → List Stmt → Bool
  | .nil, sts => sts.all isDoc
  | .cons s r, sts => (match sts with
    | [] => false
    | st :: sts => if isDoc st then (match sts with
      | [] => false
      | st :: sts => okS c s st && okSs c r sts) else okS c s st && okSs c r sts)
end
end VI

/-! VId3e: the check of statements, unfolded (printed by mkeqs.py from VId3). -/
namespace VI
open PySem PySem.Spec PyProof.Rows L2
theorem okS_asg (c : Ctx) (t : Tg) (a : IE) (st : Stmt) : okS c (.asg t a) st = ((match st with
    | .Assign [.Name x p] e pos => okTg c t (.Name x p) && okE c false a e && (match t with | .var _ => true | _ => false) && (match e with
      | .ListComp elt [⟨tg, iter, ifs, k⟩] scope q => decide (k = 0) && tame iter
      | e => noComp e)
    | .Assign [.Tuple es k p] e pos => okTg c t (.Tuple es k p) && okE c false a e && noTup e
    | _ => false)) := rfl
theorem okS_aug (c : Ctx) (i : Nat) (op : BOp) (a : IE) (st : Stmt) : okS c (.aug i op a) st = ((match st with
    | .AugAssign (.Name x _) o e _ => decide (o = bop op) && (decide (op = .add) || decide (op = .sub)) && setB c i x && okE c false a e
    | _ => false)) := rfl
theorem okS_expr (c : Ctx) (a : IE) (st : Stmt) : okS c (.expr a) st = ((match st with
    | .Expr e _ => noComp e && okE c false a e
    | _ => false)) := rfl
theorem okS_ret (c : Ctx) (a : IE) (st : Stmt) : okS c (.ret a) st = ((match st with
    | .Return (some e) _ => okE c false a e
    | _ => false)) := rfl
theorem okS_retN (c : Ctx) (st : Stmt) : okS c (.retN) st = ((match st with
    | .Return none _ => true
    | _ => false)) := rfl
theorem okS_ifS (c : Ctx) (t : IE) (a : ISs) (b : ISs) (st : Stmt) : okS c (.ifS t a b) st = ((match st with
    | .If e x y _ => okE c true t e && okSs c a x && okSs c b y
    | _ => false)) := rfl
theorem okS_forS (c : Ctx) (t : Tg) (it : VI.It) (b : ISs) (st : Stmt) : okS c (.forS t it b) st = ((match st with
    | .For tg e x [] _ => tame e && okTg c t tg && okIt c it tg e && okSs c b x
    | _ => false)) := rfl
theorem okS_whileS (c : Ctx) (t : IE) (b : ISs) (st : Stmt) : okS c (.whileS t b) st = ((match st with
    | .While e x [] _ => okE c true t e && okSs c b x
    | _ => false)) := rfl
theorem okS_brk (c : Ctx) (st : Stmt) : okS c (.brk) st = ((match st with
    | .Break _ => true
    | _ => false)) := rfl
theorem okS_pass (c : Ctx) (st : Stmt) : okS c (.pass) st = ((match st with
    | .Pass _ => true
    | _ => false)) := rfl
end VI

/-! VId4: the check is sound: statements, defs. -/
namespace VI
open PySem PySem.Spec PyProof.Rows L2
section
variable {C : Cal} {k : Nat} {X : Cx} {c : Ctx} {W : WX}
/-- name = [..] -/
theorem swaps_lc (hk : X.env.scope.kind = .function) (hsc : X.env.scope = c.sc) {elt : Expr} {gs : List Comprehension} {scope : Scope} {q p : Pos} {x : Str} {l : Nat} : swapsWith (.ListComp elt gs scope q) (some (.Name x p)) l X.env = pure (swapB c scope x p q) := by
  unfold swapsWith swapB Env.blockKind Env.kindOf
  rw [hk, hsc]
  simp only [Expr.pos]
  have e : (ScopeKind.function.isAnnotationScope) = false := rfl
  simp only [e]
  have e2 : ((c.sc.names.lookup x == some NameKind.local) = decide (c.sc.names.lookup x = some NameKind.local)) := by
    rw [Bool.beq_eq_decide_eq]
  rw [← e2]
  simp
/-- a comprehension's parts -/
theorem lc_parts {m : Bool} {own : List Nat} {t : Tg} {it : VI.It} {cd el : IE} {elt tg iter : Expr} {ifs : List Expr} {kk : Int} {scope : Scope} {pos : Pos} (G : Good C k X c) (tk : Takes X W) (h : okE c false (.lc m own t it cd el) (.ListComp elt [⟨tg, iter, ifs, kk⟩] scope pos) = true) :
    kk = 0 ∧ tame iter = true ∧ PI X tg iter (xI X C W it) ∧ BlkOk X.N X.env.scope scope (ownOf c own) ∧
    (∀ (s : Shared) (H : Hp) (A : Addr) (cl : List (Str × Addr)) (fp : List Addr), PG (X.blk s H scope (compEnvC scope cl A X.env) fp) tg (xG X.prog X.w X.K X.mg t)) ∧
    (∀ (s : Shared) (H : Hp) (A : Addr) (cl : List (Str × Addr)) (fp : List Addr), PTs (X.blk s H scope (compEnvC scope cl A X.env) fp) ifs (tT X.prog X.w X.K X.mg C (fun _ _ _ _ => False) cd)) ∧
    (∀ (s : Shared) (H : Hp) (A : Addr) (cl : List (Str × Addr)) (fp : List Addr), PE (X.blk s H scope (compEnvC scope cl A X.env) fp) elt (tE X.prog X.w X.K X.mg C (fun _ _ _ _ => False) el)) ∧
    ∀ σ H Q, xE X C W (.lc m own t it cd el) σ H Q → tLc (xI X C W it) (xG X.prog X.w X.K X.mg t) (tT X.prog X.w X.K X.mg C (fun _ _ _ _ => False) cd) (tE X.prog X.w X.K X.mg C (fun _ _ _ _ => False) el) ((ownOf c own).map (·.2)) σ H Q := by
  rw [okE_lc, Bool.and_eq_true] at h
  obtain ⟨h1, h2⟩ := h
  simp only [Bool.and_eq_true, decide_eq_true_eq] at h2
  obtain ⟨⟨⟨⟨⟨⟨⟨rfl, hb⟩, hsl⟩, ht⟩, htg⟩, hit⟩, hel⟩, hif⟩ := h2
  have hi := sI it G tk hit
  have ok : BlkOk X.N X.env.scope scope (ownOf c own) := by
    rw [G.hN, G.sc]
    exact blkOk_by hb
  have hgB := fun (s : Shared) (H : Hp) (A : Addr) (cl : List (Str × Addr)) (fp : List Addr) => (show PG (X.blk s H scope (compEnvC scope cl A X.env) fp) tg (xG X.prog X.w X.K X.mg t) from tg_ok (blk_good G s H scope A cl fp) htg)
  have hcB := fun (s : Shared) (H : Hp) (A : Addr) (cl : List (Str × Addr)) (fp : List Addr) => (show PTs (X.blk s H scope (compEnvC scope cl A X.env) fp) ifs (tT X.prog X.w X.K X.mg C (fun _ _ _ _ => False) cd) from
    pts_xT (X := X.blk s H scope (compEnvC scope cl A X.env) fp) (by
      cases ifs with
      | nil => exact .inl ⟨rfl, yes_is hif⟩
      | cons e1 r =>
        cases r with
        | nil => exact .inr ⟨e1, rfl, (sE cd (blk_good G s H scope A cl fp) (takes_blk s H scope _ fp) hif).2 rfl⟩
        | cons _ _ => cases hif))
  have heB := fun (s : Shared) (H : Hp) (A : Addr) (cl : List (Str × Addr)) (fp : List Addr) => (show PE (X.blk s H scope (compEnvC scope cl A X.env) fp) elt (tE X.prog X.w X.K X.mg C (fun _ _ _ _ => False) el) from (sE el (blk_good G s H scope A cl fp) (takes_blk s H scope _ fp) hel).1 rfl)
  have hN : X.N.Nodup := by rw [G.hN]; exact G.nd
  have q := n_lc (X := X) (C := C) (W := W) (m := m) (it := it) (tg := tg) (elt := elt) (ifs := ifs) G.calm hN ht hi ok (fun i hi => by
    rw [own_map]
    have := List.all_eq_true.mp hsl i hi
    simpa using this) hgB hcB heB
  refine ⟨rfl, ht, hi, ok, hgB, hcB, heB, ?_⟩
  rw [own_map] at q ⊢
  exact q
/-- an assignment to a name, by the expression's end -/
theorem asg_end {a : IE} {i : Nat} {E : Ends} {σ : L2.St} {H : Hp} (q : xS X C W (.asg (.var i) a) E σ H) : xE X C W a σ H (fun x H1 => gName i x σ H1 E.nx) := by
  obtain ⟨Φ, Z, β, ρ, U, r, S, R, h, o⟩ := q
  rw [exec] at h
  refine tE_bndS S R h o fun Z1 β1 H1 d v U1 z1 b1 R1 r1 S1 h1 o1 => ?_
  simp only [asgT] at h1
  cases h1
  exact o1 Z1 β1 H1 _ (ZLe.refl _) (BLe.refl _) R1 (S1.set r1)
theorem s_setC {a : IE} {i : Nat} {x : Str} {p pos q : Pos} {elt tg iter : Expr} {ifs : List Expr} {scope : Scope} (hk : X.env.scope.kind = .function) (G : Good C k X c) (tk : Takes X W) (hx : setB c i x = true) (h : okE c false a (.ListComp elt [⟨tg, iter, ifs, 0⟩] scope q) = true) :
    PS X (.Assign [.Name x p] (.ListComp elt [⟨tg, iter, ifs, 0⟩] scope q) pos) (xS X C W (.asg (.var i) a)) := by
  have hs := G.set hx
  have ha := (sE a G tk h).1 rfl
  by_cases sw : swapB c scope x p q = true
  · cases a with
    | lc m own t it cd el =>
      obtain ⟨_, ht, hi, ok, hgB, hcB, heB, im⟩ := lc_parts G tk h
      have hl : X.env.scope.names.lookup x = some .local := by
        unfold swapB at sw
        simp only [Bool.and_eq_true, decide_eq_true_eq] at sw
        rw [G.sc]
        exact sw.1.1
      refine (ps_setLc (X := X) G.calm hs.nd hs.at_ hl ?_ hi ok hgB hcB heB (fold_tame ht X.env)).imp fun E σ H q => im σ H _ (asg_end q)
      rw [swaps_lc hk G.sc, sw]
    | _ => exact absurd h (by simp [okE])
  · refine (ps_set hs.nd hs.at_ hs.loc ha ?_ hs.fn).imp fun E σ H q => asg_end q
    rw [swaps_lc hk G.sc]
    simp only [Bool.not_eq_true] at sw
    rw [sw]
end
theorem docs_ok {X : Cx} {C : Cal} {W : WX} : ∀ {sts : List Stmt}, sts.all isDoc = true → PSs X sts (xSs X C W .nil)
  | [], _ => s_nil
  | st :: sts, h => by
    simp only [List.all_cons, Bool.and_eq_true] at h
    have ih := docs_ok (X := X) (C := C) (W := W) h.2
    unfold isDoc at h
    split at h
    · exact s_doc ih
    · cases h.1
mutual
theorem sS : ∀ (s : IS) {C : Cal} {k : Nat} {X : Cx} {c : Ctx} {W : WX} {st : Stmt}, Good C k X c → Takes X W → X.env.scope.kind = .function → PassesOwn (model X.prog X.w) X.A X.env X.xe → okS c s st = true → PS X st (xS X C W s)
  | .asg t a, C, k, X, c, W, st, G, tk, hk, hp, h => by
    rw [okS_asg] at h
    split at h
    · rename_i x p e pos
      simp only [Bool.and_eq_true] at h
      obtain ⟨⟨⟨h1, h2⟩, h3⟩, h4⟩ := h
      cases t with
      | var i =>
        have hx : setB c i x = true := h1
        split at h4
        · simp only [Bool.and_eq_true, decide_eq_true_eq] at h4
          obtain ⟨rfl, ht⟩ := h4
          exact s_setC hk G tk hx h2
        · exact s_set (G.set hx) h4 ((sE a G tk h2).1 rfl)
      | _ => cases h3
    · rename_i es kk p e pos
      simp only [Bool.and_eq_true] at h
      obtain ⟨⟨h1, h2⟩, h3⟩ := h
      exact s_asgT h3 ((sE a G tk h2).1 rfl) (tg_ok G h1)
    · cases h
  | .aug i op a, C, k, X, c, W, st, G, tk, hk, hp, h => by
    rw [okS_aug] at h
    split at h
    · simp only [Bool.and_eq_true, Bool.or_eq_true, decide_eq_true_eq] at h
      obtain ⟨⟨⟨rfl, ho⟩, hx⟩, h3⟩ := h
      exact s_aug ho (G.set hx) ((sE a G tk h3).1 rfl)
    · cases h
  | .expr a, C, k, X, c, W, st, G, tk, hk, hp, h => by
    rw [okS_expr] at h
    split at h
    · simp only [Bool.and_eq_true] at h
      exact s_expr h.1 ((sE a G tk h.2).1 rfl)
    · cases h
  | .ret a, C, k, X, c, W, st, G, tk, hk, hp, h => by
    rw [okS_ret] at h
    split at h
    · exact s_ret ((sE a G tk h).1 rfl)
    · cases h
  | .retN, C, k, X, c, W, st, G, tk, hk, hp, h => by
    rw [okS_retN] at h
    split at h
    · exact s_retN
    · cases h
  | .ifS t a b, C, k, X, c, W, st, G, tk, hk, hp, h => by
    rw [okS_ifS] at h
    split at h
    · simp only [Bool.and_eq_true] at h
      exact s_if ((sE t G tk h.1.1).2 rfl) (sSs a G tk hk hp h.1.2) (sSs b G tk hk hp h.2)
    · cases h
  | .forS t it b, C, k, X, c, W, st, G, tk, hk, hp, h => by
    rw [okS_forS] at h
    split at h
    · simp only [Bool.and_eq_true] at h
      exact s_for hp G.calm h.1.1.1 (sI it G tk h.1.2) (tg_ok G h.1.1.2) (sSs b G tk hk hp h.2)
    · cases h
  | .whileS t b, C, k, X, c, W, st, G, tk, hk, hp, h => by
    rw [okS_whileS] at h
    split at h
    · simp only [Bool.and_eq_true] at h
      exact s_while hp ((sE t G tk h.1).2 rfl) (sSs b G tk hk hp h.2)
    · cases h
  | .brk, C, k, X, c, W, st, G, tk, hk, hp, h => by
    rw [okS_brk] at h
    split at h
    · exact s_brk
    · cases h
  | .pass, C, k, X, c, W, st, G, tk, hk, hp, h => by
    rw [okS_pass] at h
    split at h
    · exact s_pass
    · cases h
  | .asgI _ _ _, C, k, X, c, W, st, G, tk, hk, hp, h => by first | (cases h; done) | (simp only [okS, Bool.false_eq_true] at h; done)
  | .asgF _ _ _, C, k, X, c, W, st, G, tk, hk, hp, h => by first | (cases h; done) | (simp only [okS, Bool.false_eq_true] at h; done)
  | .asgIV _ _ _ _, C, k, X, c, W, st, G, tk, hk, hp, h => by first | (cases h; done) | (simp only [okS, Bool.false_eq_true] at h; done)
  | .raise _ _ _, C, k, X, c, W, st, G, tk, hk, hp, h => by first | (cases h; done) | (simp only [okS, Bool.false_eq_true] at h; done)
  | .tryS _ _ _ _, C, k, X, c, W, st, G, tk, hk, hp, h => by first | (cases h; done) | (simp only [okS, Bool.false_eq_true] at h; done)
theorem sSs : ∀ (s : ISs) {C : Cal} {k : Nat} {X : Cx} {c : Ctx} {W : WX} {sts : List Stmt}, Good C k X c → Takes X W → X.env.scope.kind = .function → PassesOwn (model X.prog X.w) X.A X.env X.xe → okSs c s sts = true → PSs X sts (xSs X C W s)
  | .nil, C, k, X, c, W, sts, G, tk, hk, hp, h => docs_ok h
  | .cons s r, C, k, X, c, W, sts, G, tk, hk, hp, h => by
    cases sts with
    | nil => cases h
    | cons st sts =>
      unfold okSs at h
      dsimp only at h
      split at h
      · rename_i hd
        cases sts with
        | nil => cases h
        | cons st2 sts =>
          simp only [Bool.and_eq_true] at h
          have q := s_cons (sS s G tk hk hp h.1) (sSs r G tk hk hp h.2)
          unfold isDoc at hd
          split at hd
          · exact s_doc q
          · cases hd
      · simp only [Bool.and_eq_true] at h
        exact s_cons (sS s G tk hk hp h.1) (sSs r G tk hk hp h.2)
end
/-! ### defs -/
structure Entry where
  name : String
  N : List Str
  ps : List Str
  fn : Fn
  qual : Str
  params : Arguments
  body : List Stmt
  scope : Scope
def fnScopeB (N ps : List Str) (sc : Scope) : Bool := decide (sc.kind = .function) && (!sc.isCoroutine && (!sc.isGenerator && (decide N.Nodup && (decide (N.take ps.length = ps) && (ps.all (fun x => decide (sc.names.lookup x = some .local) || decide (sc.names.lookup x = some .cell)) && sc.names.all fun y => decide (y.2 ≠ .free))))))
theorem fnScope_ok {N ps : List Str} {sc : Scope} (h : fnScopeB N ps sc = true) : FnScope N ps sc := by
  unfold fnScopeB at h
  simp only [Bool.and_eq_true, decide_eq_true_eq, Bool.not_eq_true', List.all_eq_true, Bool.or_eq_true] at h
  obtain ⟨h1, h2, h3, h4, h5, h6, h7⟩ := h
  exact ⟨h1, h2, h3, h4, h5, h6, h7⟩
def ctxOf (fs free : List String) (cs : List (String × D)) (e : Entry) : Ctx := { N := e.N, sc := e.scope, fn := fun _ => true, fs := fs, free := free, cs := cs }
def entryOk (fs free : List String) (cs : List (String × D)) (e : Entry) : Bool := decide (e.fn.np = e.ps.length) && (decide (e.fn.ns = e.N.length) && (fnScopeB e.N e.ps e.scope && okSs (ctxOf fs free cs e) e.fn.body e.body))
/-- what is known of the module -/
structure Known (P : Program) (w : World) (K : PySem.W.Frag) (mg : Str → Option Value) (free : List String) (cs : List (String × D)) : Prop where
  free : ∀ x ∈ free, mg (Str.ofString x) = none
  cs : ∀ q ∈ cs, ∃ u v, mg (Str.ofString q.1) = some u ∧ RelV v u ∧ ∀ Z β, RepV P w K Z β q.2 v
/-- a def stands -/
def Stands (K : PySem.W.Frag) (mg : Str → Option Value) (e : Entry) : Prop := ∃ (a : Addr) (fd : FuncData) (x : Str), mg (Str.ofString e.name) = some (.ref a) ∧ PySem.W.keepIn K (.ref a) = true ∧ FunD K x e.qual e.params e.body e.scope [] [] a fd ∧ Binds K fd e.ps []
theorem start_rep {P : Program} {w : World} {K : PySem.W.Frag} {Z : Hp} {β : List Addr} {fn : Fn} {N : List Str} {ds : List D} {vs : List V} (hn : fn.ns = N.length) (hp : ds.length = fn.np) (q : RepL P w K Z β ds vs) : RepS P w K Z β (startR fn ds) (L2.start N vs) := by
  unfold startR L2.start
  have hl := q.length
  refine ⟨by simp [hl, hn, ← hp], fun i d e => ?_⟩
  by_cases hi : i < ds.length
  · rw [List.getElem?_append_left (by simpa using hi), List.getElem?_map, Option.map_eq_some_iff] at e
    obtain ⟨d', e1, e2⟩ := e
    cases e2
    obtain ⟨v, e3, r⟩ := q.get e1
    refine ⟨v, ?_, r⟩
    rw [List.getElem?_append_left (by simp; omega), List.getElem?_map, e3]
    rfl
  · rw [List.getElem?_append_right (by simpa using Nat.le_of_not_lt hi), List.getElem?_replicate] at e
    split at e <;> cases e
/-- one def, one call deeper -/
theorem entry_ok {P : Program} {w : World} {K : PySem.W.Frag} {mg : Str → Option Value} {base : Heap} {Γ : Tab} {fs free : List String} {cs : List (String × D)} {e : Entry} {j : Nat} {a : Addr} {fd : FuncData} {x : Str} (kn : Known P w K mg free cs) (ho : entryOk fs free cs e = true) (hΓ : Γ e.name = some e.fn)
    (F : FunD K x e.qual e.params e.body e.scope [] [] a fd) (ih : ∀ f ∈ fs, FnHyp P w K mg base (run Γ j) (j + 1) f) : FnOk P w K mg base (L2.CX P w) (j + 2) a fd e.ps (spV P w K mg (run Γ (j + 1)) e.name) := by
  unfold entryOk at ho
  simp only [Bool.and_eq_true, decide_eq_true_eq] at ho
  obtain ⟨h1, h2, h3, h4⟩ := ho
  have S := fnScope_ok h3
  have len : ∀ vs H Q E, spV P w K mg (run Γ (j + 1)) e.name vs H Q E → vs.length = e.ps.length := fun vs H Q E q => by
    obtain ⟨Φ, Z, β, U, ds, r, R, q, h, _⟩ := q
    rw [run, hΓ] at h
    simp only at h
    split at h
    · rename_i hd
      rw [← q.length, hd, h1]
    · cases h
  refine F.ok S len fun cdv A outer s H vs Q E hr q => ?_
  obtain ⟨Φ, Z, β, U, ds, r, R, q, h, o⟩ := q
  rw [run, hΓ] at h
  simp only at h
  split at h
  · rename_i hd
    have G : Good (run Γ j) (j + 1) (cxOf (L2.CX P w) P w K mg base e.N e.qual e.scope a cdv A outer s H E) (ctxOf fs free cs e) :=
      ⟨rfl, S.nd, rfl, rfl, rfl, hr, Nat.succ_pos j, kn.free, kn.cs, ih⟩
    have tk : Takes (cxOf (L2.CX P w) P w K mg base e.N e.qual e.scope a cdv A outer s H E) (fun cls d _ H => E cls d H) := takes_of rfl rfl rfl rfl
    refine ⟨_, sSs e.fn.body G tk S.kind (passes_of rfl) h4, ?_⟩
    cases hx : execs (run Γ j) e.fn.body (startR e.fn ds) U with
    | none => rw [hx] at h; cases h
    | some rs =>
      rw [hx] at h
      refine ⟨Φ, Z, β, startR e.fn ds, U, rs, start_rep h2 hd q, R, hx, ?_⟩
      cases rs with
      | nx ρ U' =>
        cases h
        exact fun Z' β' H' σ' z b R' _ => o Z' β' H' .non z b R' (by simp only [RepV])
      | rt d U' => cases h; exact o
      | bk ρ U' => cases h
      | ex x ρ U' =>
        cases h
        exact fun Z' β' σ' z b _ => DoneX.mono o z b
  · cases h
theorem fns_ok {P : Program} {w : World} {K : PySem.W.Frag} {mg : Str → Option Value} {base : Heap} {Γ : Tab} {fs free : List String} {cs : List (String × D)} {es : List Entry} (kn : Known P w K mg free cs) (ok : ∀ e ∈ es, entryOk fs free cs e = true) (st : ∀ e ∈ es, Stands K mg e) (tab : ∀ f ∈ fs, ∃ e ∈ es, e.name = f ∧ Γ f = some e.fn) :
    ∀ (j : Nat), ∀ f ∈ fs, FnHyp P w K mg base (run Γ j) (j + 1) f
  | 0, f, hf => by
    obtain ⟨e, he, rfl, hΓ⟩ := tab f hf
    obtain ⟨a, fd, x, hm, hk, F, hb⟩ := st e he
    refine ⟨a, fd, e.ps, hm, hk, ⟨fun vs H Q E q => ?_, fun A outer s H args us vs Q E hr e0 hb' r q => ?_⟩, hb⟩
    · obtain ⟨Φ, Z, β, U, ds, r, R, q, h, _⟩ := q
      cases h
    · obtain ⟨Φ, Z, β, U, ds, r, R, q, h, _⟩ := q
      cases h
  | j + 1, f, hf => by
    obtain ⟨e, he, rfl, hΓ⟩ := tab f hf
    obtain ⟨a, fd, x, hm, hk, F, hb⟩ := st e he
    exact ⟨a, fd, e.ps, hm, hk, entry_ok kn (ok e he) hΓ F (fns_ok kn ok st tab j), hb⟩
end VI

/-! VIe1: from the evaluator to a law's row. -/
namespace VI
open PySem PySem.Spec PyProof.Rows L2
/-! ### constants of the module -/
mutual
def datB (K : PySem.W.Frag) : D → Value → Bool
  | .non, u => (match u with | .none => true | _ => false)
  | .bl b, u => (match u with | .bool c => decide (b = c) | _ => false)
  | .int i, u => (match u with | .int j _ => decide (i = j) | _ => false)
  | .str x, u => (match u with | .str s _ => decide (s = ⟨x.toArray⟩) | _ => false)
  | .tup xs, u => (match u with
    | .ref a => (match K.lookup a with
      | some ⟨.type c, _, .seq its _, _⟩ => decide (c = "tuple") && (decide (its.size ≤ sizeLine) && datBL K xs its.toList)
      | _ => false)
    | _ => false)
  | .lst xs, u => (match u with
    | .ref a => (match K.lookup a with
      | some ⟨.type c, none, .seq its _, _⟩ => decide (c = "list") && (decide (its.size ≤ sizeLine) && datBL K xs its.toList)
      | _ => false)
    | _ => false)
  | _, _ => false
def datBL (K : PySem.W.Frag) : List D → List Value → Bool
  | [], us => us.isEmpty
  | x :: r, us => (match us with
    | u :: s => datB K x u && datBL K r s
    | [] => false)
end
mutual
theorem datB_ok {K : PySem.W.Frag} : ∀ {d : D} {u : Value}, datB K d u = true → ∃ v, RelV v u ∧ ∀ (P : Program) (w : World) (Z : Hp) (β : List Addr), RepV P w K Z β d v
  | .non, u, h => by
    cases u <;> first
      | exact ⟨.non, rfl, fun P w Z β => by simp only [RepV]⟩
      | (simp only [datB, Bool.false_eq_true] at h; done)
  | .bl b, u, h => by
    cases u <;> first
      | (simp only [datB, decide_eq_true_eq] at h
         subst h
         exact ⟨.bl b, rfl, fun P w Z β => by simp only [RepV]⟩
         done)
      | (simp only [datB, Bool.false_eq_true] at h; done)
  | .int i, u, h => by
    cases u <;> first
      | (simp only [datB, decide_eq_true_eq] at h
         subst h
         exact ⟨.int i, ⟨_, rfl⟩, fun P w Z β => by simp only [RepV]⟩
         done)
      | (simp only [datB, Bool.false_eq_true] at h; done)
  | .str x, u, h => by
    cases u <;> first
      | (simp only [datB, decide_eq_true_eq] at h
         subst h
         exact ⟨.str _, ⟨_, rfl⟩, fun P w Z β => by simp only [RepV]⟩
         done)
      | (simp only [datB, Bool.false_eq_true] at h; done)
  | .tup xs, u, h => by
    cases u with
    | ref a =>
      simp only [datB] at h
      split at h
      · rename_i c od its n sl e
        simp only [Bool.and_eq_true, decide_eq_true_eq] at h
        obtain ⟨rfl, hz, h⟩ := h
        obtain ⟨vs, rv, rp⟩ := datBL_ok h
        refine ⟨.ref a, rfl, fun P w Z β => ?_⟩
        simp only [RepV]
        exact ⟨a, vs, rfl, .inr ⟨_, its, n, e, rfl, rfl, hz, rv⟩, rp P w Z β⟩
      · cases h
    | _ => simp only [datB, Bool.false_eq_true] at h
  | .lst xs, u, h => by
    cases u with
    | ref a =>
      simp only [datB] at h
      split at h
      · rename_i c its n sl e
        simp only [Bool.and_eq_true, decide_eq_true_eq] at h
        obtain ⟨rfl, hz, h⟩ := h
        obtain ⟨vs, rv, rp⟩ := datBL_ok h
        refine ⟨.ref a, rfl, fun P w Z β => ?_⟩
        simp only [RepV]
        exact ⟨a, vs, rfl, .inr ⟨_, its, n, e, rfl, rfl, rfl, hz, rv⟩, rp P w Z β⟩
      · cases h
    | _ => simp only [datB, Bool.false_eq_true] at h
  | .dct _ _, u, h => by cases u <;> simp only [datB, Bool.false_eq_true] at h
  | .ref _, u, h => by cases u <;> simp only [datB, Bool.false_eq_true] at h
  | .exn _ _, u, h => by cases u <;> simp only [datB, Bool.false_eq_true] at h
theorem datBL_ok {K : PySem.W.Frag} : ∀ {ds : List D} {us : List Value}, datBL K ds us = true → ∃ vs, Vals vs us ∧ ∀ (P : Program) (w : World) (Z : Hp) (β : List Addr), RepL P w K Z β ds vs
  | [], us, h => by
    cases us with
    | nil => exact ⟨[], .nil, fun P w Z β => RepL.nil⟩
    | cons u s => cases h
  | x :: r, us, h => by
    cases us with
    | nil => simp only [datBL, Bool.false_eq_true] at h
    | cons u s =>
      simp only [datBL, Bool.and_eq_true] at h
      obtain ⟨v, r1, p1⟩ := datB_ok h.1
      obtain ⟨vs, r2, p2⟩ := datBL_ok h.2
      exact ⟨v :: vs, .cons r1 r2, fun P w Z β => RepL.cons (p1 P w Z β) (p2 P w Z β)⟩
end
/-- what is asked of the module -/
def exB (free : List String) (cs : List (String × D)) (K : PySem.W.Frag) : Bool := (free.all fun x => He.eqO (PySem.W.nsIn K mainGlobals (Str.ofString x)) (some none)) && cs.all fun q => match PySem.W.nsIn K mainGlobals (Str.ofString q.1) with
  | some (some u) => datB K q.2 u
  | _ => false
theorem known_of {P : Program} {w : World} {K : PySem.W.Frag} {mg : Str → Option Value} {h : Heap} {free : List String} {cs : List (String × D)} (X : K.In h) (G : h.Ns mainGlobals mg) (c : exB free cs K = true) : Known P w K mg free cs := by
  unfold exB at c
  simp only [Bool.and_eq_true, List.all_eq_true] at c
  refine ⟨fun x hx => PySem.W.mg_none_of X G (He.eqO_ok (c.1 x hx)), fun q hq => ?_⟩
  have h2 := c.2 q hq
  split at h2
  · rename_i u e
    obtain ⟨v, r, p⟩ := datB_ok h2
    exact ⟨u, v, PySem.W.mg_of X G e, r, fun Z β => p P w Z β⟩
  · cases h2
def defD (e : Entry) : He.DefD := ⟨(Str.ofString e.name, none), Str.ofString e.name, e.qual, e.params, e.body, e.scope, [], []⟩
def faOf (es : List Entry) : List He.Fa := es.map fun e => .glo (Str.ofString e.name)
def fnsOf (es : List Entry) : List He.DefD := es.map defD
/-- arguments are bound -/
def BindOk (e : Entry) : Prop := ∀ (kV doc pm : Value) (an : Option Addr) (cdv ct : Value) (us : List Value), us.length = e.ps.length → bindArgs (PySem.W.fnOf (Str.ofString e.name) e.qual e.params e.body e.scope .none kV doc pm an cdv ct) ⟨us, []⟩ = pure (e.ps.zip us)
theorem stands_of {K : PySem.W.Frag} {mg : Str → Option Value} {h : Heap} {es : List Entry} {e : Entry} (X : K.In h) (G : h.Ns mainGlobals mg) (c : He.SaysD (faOf es) (fnsOf es) K) (he : e ∈ es) (hb : BindOk e) :
    ∃ (a : Addr) (fd : FuncData) (x : Str), mg (Str.ofString e.name) = some (.ref a) ∧ PySem.W.keepIn K (.ref a) = true ∧ FunD K x e.qual e.params e.body e.scope [] [] a fd ∧ Binds K fd e.ps [] ∧ ∀ (s : Shared) (us : List Value), us.length = e.ps.length → BindsTo s fd ⟨us, []⟩ (e.ps.zip us) := by
  have h1 := He.glo_ok X G (c.facts (f := .glo (Str.ofString e.name)) (List.mem_map.mpr ⟨e, he, rfl⟩))
  obtain ⟨fd, F⟩ := c.defs (d := defD e) (List.mem_map.mpr ⟨e, he, rfl⟩)
  exact ⟨_, fd, _, h1, F.kp, F, F.bindsN hb, fun s us hl => FunD.bindsA F hb s us hl⟩
abbrev lawHook (n : Nat) (es : List Entry) (free : List String) (cs : List (String × D)) : PySem.W.Hook := He.hookX n (faOf es) (fnsOf es) [] [] (exB free cs)
/-- a law keeps its row where the evaluator says so -/
theorem law_V {l : PySem.W.OpenLaw} {n g j : Nat} {q : Program} {loose : List Str} {XP : (Str → Option Value) → Heap → Prop} {d : DefRec} {es : List Entry} {fs free : List String} {cs : List (String × D)} {Γ : Tab} {el : Entry} {x : Str}
    (hn : l.most = some n) (hn2 : n ≤ sizeLine) (hdf : d.params.defaults = []) (hdn : d.name = Str.ofString el.name) (hr : Room (j + 2) callerA)
    (ok : ∀ e ∈ es, entryOk fs free cs e = true) (bind : ∀ e ∈ es, BindOk e) (tab : ∀ f ∈ fs, ∃ e ∈ es, e.name = f ∧ Γ f = some e.fn) (hel : el ∈ es) (hΓ : Γ el.name = some el.fn) (hps : el.ps = [x])
    (plain : ∀ ns : List Int, ns.length ≤ n → (∀ z ∈ ns, Builtin.Int.intBits z ≤ 1048576) → ∃ U', run Γ (j + 1) el.name [.lst (ns.map .int)] [] = some (.ok (.bl true) U')) :
    PySem.W.WalkO q loose XP (lawHook g es free cs).says l.row.toRowW d [] (fun f vs => PySem.call f vs) := by
  refine Att.attach_callB hn hdf fun w s₀ s₁ mg mb fa o pm cd doc a vs ns G Y ho hd hcd hmg hobj hints hlen hbits hg => ?_
  obtain ⟨K, KX, c⟩ := Y
  have kn : Known l.prog w K mg free cs := known_of KX G.T.g c.more
  have st : ∀ e ∈ es, Stands K mg e := fun e he => by
    obtain ⟨a, fd, x, h1, h2, h3, h4, _⟩ := stands_of KX G.T.g c.t.d he (bind e he)
    exact ⟨a, fd, x, h1, h2, h3, h4⟩
  obtain ⟨al, fd, x', h1, h2, F, h4, h5⟩ := stands_of KX G.T.g c.t.d hel (bind el hel)
  have e : al = fa := by
    rw [hdn, h1] at hmg
    injection hmg with e
    injection e
  subst e
  have hF : ∀ base : Heap, K.In base → base.Ns mainGlobals mg → FnOk l.prog w K mg base (L2.CX l.prog w) (j + 2) al fd [x] (spV l.prog w K mg (run Γ (j + 1)) el.name) := fun base _ _ => by
    have q := entry_ok (base := base) kn (ok el hel) hΓ F (fns_ok (base := base) kn ok st tab j)
    rw [hps] at q
    exact q
  refine law_call KX G.T.g G.T.b G.T.builtins G.T.nolimit hg hobj hints (Nat.le_trans hlen hn2) hr hF (fun s u => by
    have := h5 s [u] (by rw [hps]; rfl)
    rw [hps] at this
    exact this) (fun H hO hS => ?_) fun H e s' hc => ?_
  · obtain ⟨U', hp⟩ := plain ns hlen hbits
    refine ⟨[], H, [], [], [.lst (ns.map .int)], _, ⟨ZLe.refl H, rfl, List.nodup_nil, by simp, by simp, by simp⟩, RepL.cons ?_ RepL.nil, hp, fun Z' β' H' v z b R r => ?_⟩
    · simp only [RepV]
      exact ⟨a, _, rfl, hS, RepL.ints ns⟩
    · simpa only [RepV] using r
  · obtain ⟨_, _, _, _, _, _, _, _, _, _, _, _, z⟩ := hc
    exact z
end VI

namespace LK
open VI PySem PySem.Spec PyProof.Rows L2
def top (i : Nat) : Stmt := PySem.Challenge.pw_quoteweave_k02_numbers.main.body.getD i (.Pass ⟨0, 0, 0, 0⟩)
def e_made_of : VI.Entry := ⟨"made_of", ["word", "some", "sign"], ["word", "some"], fn_made_of, "made_of", defArgs (top 2), defBody (top 2), defScope (top 2)⟩
def e_number_in : VI.Entry := ⟨"number_in", ["word"], ["word"], fn_number_in, "number_in", defArgs (top 3), defBody (top 3), defScope (top 3)⟩
def e__law_mixed : VI.Entry := ⟨"_law_mixed", ["cell", "k", "factor"], ["cell", "k"], fn__law_mixed, "_law_mixed", defArgs (top 5), defBody (top 5), defScope (top 5)⟩
def e__law_sign_by : VI.Entry := ⟨"_law_sign_by", ["n", "some"], ["n"], fn__law_sign_by, "_law_sign_by", defArgs (top 6), defBody (top 6), defScope (top 6)⟩
def e__law_number : VI.Entry := ⟨"_law_number", ["word", "value", "sign"], ["word"], fn__law_number, "_law_number", defArgs (top 7), defBody (top 7), defScope (top 7)⟩
def e__law_figures_by : VI.Entry := ⟨"_law_figures_by", ["n", "way"], ["n"], fn__law_figures_by, "_law_figures_by", defArgs (top 8), defBody (top 8), defScope (top 8)⟩
def e__law_text_by : VI.Entry := ⟨"_law_text_by", ["n", "m", "word", "way", "at", "sign"], ["n", "m"], fn__law_text_by, "_law_text_by", defArgs (top 9), defBody (top 9), defScope (top 9)⟩
def e_law : VI.Entry := ⟨"law", ["script", "cell", "word", "found", "due"], ["script"], fn_law, "law", defArgs (top 10), defBody (top 10), defScope (top 10)⟩
def es : List VI.Entry := [e_made_of, e_number_in, e__law_mixed, e__law_sign_by, e__law_number, e__law_figures_by, e__law_text_by, e_law]
def fs : List String := ["made_of", "number_in", "_law_mixed", "_law_sign_by", "_law_number", "_law_figures_by", "_law_text_by", "law"]
def free : List String := ["len", "isinstance", "bool", "int", "str"]
def cs : List (String × D) := [("MOST_FIGURES", (.int 9))]
theorem ok_made_of : entryOk fs free cs e_made_of = true := by decide +kernel
theorem b_made_of : BindOk e_made_of := fun _ _ _ _ _ _ us hl => match us, hl with
  | [_, _], _ => rfl
theorem ok_number_in : entryOk fs free cs e_number_in = true := by decide +kernel
theorem b_number_in : BindOk e_number_in := fun _ _ _ _ _ _ us hl => match us, hl with
  | [_], _ => rfl
theorem ok__law_mixed : entryOk fs free cs e__law_mixed = true := by decide +kernel
theorem b__law_mixed : BindOk e__law_mixed := fun _ _ _ _ _ _ us hl => match us, hl with
  | [_, _], _ => rfl
theorem ok__law_sign_by : entryOk fs free cs e__law_sign_by = true := by decide +kernel
theorem b__law_sign_by : BindOk e__law_sign_by := fun _ _ _ _ _ _ us hl => match us, hl with
  | [_], _ => rfl
theorem ok__law_number : entryOk fs free cs e__law_number = true := by decide +kernel
theorem b__law_number : BindOk e__law_number := fun _ _ _ _ _ _ us hl => match us, hl with
  | [_], _ => rfl
theorem ok__law_figures_by : entryOk fs free cs e__law_figures_by = true := by decide +kernel
theorem b__law_figures_by : BindOk e__law_figures_by := fun _ _ _ _ _ _ us hl => match us, hl with
  | [_], _ => rfl
theorem ok__law_text_by : entryOk fs free cs e__law_text_by = true := by decide +kernel
theorem b__law_text_by : BindOk e__law_text_by := fun _ _ _ _ _ _ us hl => match us, hl with
  | [_, _], _ => rfl
theorem ok_law : entryOk fs free cs e_law = true := by decide +kernel
theorem b_law : BindOk e_law := fun _ _ _ _ _ _ us hl => match us, hl with
  | [_], _ => rfl
theorem oks : ∀ e ∈ es, entryOk fs free cs e = true := by
  intro e he
  simp only [es, List.mem_cons, List.not_mem_nil, or_false] at he
  rcases he with rfl | rfl | rfl | rfl | rfl | rfl | rfl | rfl
  · exact ok_made_of
  · exact ok_number_in
  · exact ok__law_mixed
  · exact ok__law_sign_by
  · exact ok__law_number
  · exact ok__law_figures_by
  · exact ok__law_text_by
  · exact ok_law
theorem binds : ∀ e ∈ es, BindOk e := by
  intro e he
  simp only [es, List.mem_cons, List.not_mem_nil, or_false] at he
  rcases he with rfl | rfl | rfl | rfl | rfl | rfl | rfl | rfl
  · exact b_made_of
  · exact b_number_in
  · exact b__law_mixed
  · exact b__law_sign_by
  · exact b__law_number
  · exact b__law_figures_by
  · exact b__law_text_by
  · exact b_law
theorem tabs : ∀ f ∈ fs, ∃ e ∈ es, e.name = f ∧ tab f = some e.fn := by
  intro f hf
  simp only [fs, List.mem_cons, List.not_mem_nil, or_false] at hf
  rcases hf with rfl | rfl | rfl | rfl | rfl | rfl | rfl | rfl
  · exact ⟨e_made_of, by simp [es], rfl, rfl⟩
  · exact ⟨e_number_in, by simp [es], rfl, rfl⟩
  · exact ⟨e__law_mixed, by simp [es], rfl, rfl⟩
  · exact ⟨e__law_sign_by, by simp [es], rfl, rfl⟩
  · exact ⟨e__law_number, by simp [es], rfl, rfl⟩
  · exact ⟨e__law_figures_by, by simp [es], rfl, rfl⟩
  · exact ⟨e__law_text_by, by simp [es], rfl, rfl⟩
  · exact ⟨e_law, by simp [es], rfl, rfl⟩
def loose0 : List PySem.Str := ["MOST_FIGURES", "made_of", "number_in", "_law_mixed", "_law_sign_by", "_law_number", "_law_figures_by", "_law_text_by"]
def loose : List PySem.Str := loose0
abbrev R : PySem.W.OpenRow := PySem.W.OpenLaw.row PySem.Challenge.rw_quoteweave_k02_numbers
abbrev hk : PySem.W.Hook := lawHook 4 es free cs
def ob (s : PySem.W.SharedT) : He.AlX := He.obsX 4 (faOf es) (fnsOf es) [] [] (exB free cs) (HandSHeadRun.getT s)
theorem ob_eq (s : PySem.W.SharedT) : ob s = hk.obs s.abs := He.obsX_eq (HandSHeadRun.getT_eq s)
theorem run (w : World) : HandSHeadRun.RunEq R (PySem.W.view R.prog [10]) hk ob 4000 loose w := by
  intro os
  kernel_rfl
theorem plain : ∀ ns : List Int, ns.length ≤ 63 → (∀ z ∈ ns, Builtin.Int.intBits z ≤ 1048576) → ∃ U', VI.run tab 12 "law" [.lst (ns.map .int)] [] = some (.ok (.bl true) U') :=
  fun ns h hb => VI.plain_k02 ns h fun z hz => by
    rw [← VI.bits_eq]
    exact hb z hz
end LK
open PySem PySem.W PySem.Calls PyProof.Rows
theorem PySem.Challenge.cw_quoteweave_k02_numbers_holds : PySem.Challenge.rw_quoteweave_k02_numbers.Holds := by
  w_on; o_law
  refine HandSHeadRun.head_any (r := OpenLaw.row PySem.Challenge.rw_quoteweave_k02_numbers) (q := view (OpenLaw.row PySem.Challenge.rw_quoteweave_k02_numbers).prog [10]) (H := LK.hk) (ob := LK.ob) (M := 4000) (loose := LK.loose) (d := HandSHeadRun.topDef (OpenLaw.row PySem.Challenge.rw_quoteweave_k02_numbers).prog 10) (kwd := []) LK.ob_eq
    (by kernel_rfl) (fun s => by kernel_rfl) LK.run (by kernel_rfl) (by kernel_rfl) (by kernel_rfl) (by rfl) (by first | assumption | decide +kernel) (by decide +kernel) ⟨rfl, rfl, rfl, rfl, rfl, by decide +kernel⟩ ?hw ?hc
  case hw => w_witness2
  case hc =>
    exact VI.law_V (l := PySem.Challenge.rw_quoteweave_k02_numbers) (n := 63) (j := 11) (x := "script") (el := LK.e_law) rfl (by decide) (by kernel_rfl) (by kernel_rfl) ⟨rfl, by decide, by decide⟩ LK.oks LK.binds LK.tabs (by simp [LK.es]) rfl rfl LK.plain
