import PyProof.Rows.All
import Wide.All
import OpenK.AllK
import Wide.FinOn
import HandS.ForMost
import HandS.Deep
import KE.KDictPairs
import HandS.TryOnly
import PyProof.CollectIter
import HandS.TupAny
import HandS.More
import HandS.IsInst
import HandS.Exc
import HandS.CallSlots
import HandS.ExcOwn
import HandS.Text
import PyProof.ReprRoads
import HandS.Flow
import HandS.TupLen
import HandS.RaiseMore
import HandS.Style
import HandS.Rev
import KE.KRevSl
import PyProof.SliceStr2
import HandS.ExcIs
import HandS.Walk
import HandS.Zip
import HandS.DictComp
import HandS.SetBool
import HandS.SetKeys
import HandS.Words
import HandS.EndBits
import HandS.Defaults
import HandS.Head0
import HandS.Head1
import HandS.Head2
import HandS.HeadHook1
import PySem.Challenge.RW_lorestead_k04_fields_known
set_option Elab.async false
set_option linter.all false
set_option maxRecDepth 100000
/-! The small language: what a def of the text computes, over plain data. -/
namespace Lo
open PySem
/-- the longest list, tuple, text -/
abbrev LINE : Nat := 16777216
/-- a value: plain data; a cell of the memory; a fresh list or dict; what a loop walks; a list, a dict that is only read; a caught exception of class c -/
inductive W where
  | d (x : PyData) | ref (n : Nat) | new (xs : List PyData) | newd (kvs : List (PyData × PyData)) | it (xs : List PyData) | ro (xs : List PyData) | rod (kvs : List (PyData × PyData)) | exc (c : Nat)
/-- a cell: a list, a list that a loop walks, a dict -/
inductive MO where
  | lst (xs : List PyData) | lk (xs : List PyData) | dic (kvs : List (PyData × PyData))
abbrev Mem := List MO
abbrev En := List (Option W)
inductive R (α : Type) where
  | ok (a : α) (m : Mem) | exc (c : Nat) (m : Mem) | bad
def R.bind {α β : Type} : R α → (α → Mem → R β) → R β
  | .ok a m, f => f a m
  | .exc c m, _ => .exc c m
  | .bad, _ => .bad
def R.of {α : Type} (m : Mem) : Option α → R α
  | some a => .ok a m
  | none => .bad
/-- a target: a name, two, three targets -/
inductive Tg where
  | v (i : Nat) | t2 (a b : Tg) | t3 (a b c : Tg)
/-- built-in functions -/
inductive Bi where
  | len | all | any | sum | minl | min2 | max2 | sorted | tup | lst | dct | int | str | repr
/-- methods of built-in types -/
inductive Mt where
  | append | extend | join | get | index | count
/-- what isinstance is asked of -/
inductive Ty where
  | int | bool | str | tuple | list | dict | cls (c : Nat)
/-- expressions -/
inductive Ex where
  | c (x : PyData)
  | g (x : Str) (d : PyData)
  | gd (x : Str) (kvs : List (PyData × PyData))
  | dnew
  | v (i : Nat)
  | bin (op : Operator) (a b : Ex)
  | neg (a : Ex)
  | cmp (op : CmpOp) (a b : Ex)
  | isN (a : Ex) | notN (a : Ex)
  | chn (o1 o2 : CmpOp) (a b c : Ex)
  | not (a : Ex)
  | and (es : List Ex)
  | or (es : List Ex)
  | ite (c a b : Ex)
  | tup (es : List Ex)
  | lst (es : List Ex)
  | ix (a i : Ex)
  | sl (a : Ex) (lo hi : List Ex)
  | step (a : Ex) (lo hi st : List Ex)
  | call (f : Nat) (as : List Ex)
  | bi (b : Bi) (as : List Ex)
  | mt (m : Mt) (o : Ex) (as : List Ex)
  | isi (a : Ex) (ts : List Ty)
  | lc (el : Ex) (own : List Nat) (tg : Tg) (it : Ex) (co : List Ex)
  | lc2 (el : Ex) (own : List Nat) (tg : Tg) (it : Ex) (co : List Ex) (own1 : List Nat) (tg1 : Tg) (it1 : Ex) (co1 : List Ex)
  | dc (k v : Ex) (own : List Nat) (tg : Tg) (it : Ex) (co : List Ex)
  | sclen (el : Ex) (own : List Nat) (tg : Tg) (it : Ex) (co : List Ex)
  | rng (es : List Ex)
  | enm (as : List Ex)
  | zip (as : List Ex)
/-- statements -/
inductive Sm where
  | set (i : Nat) (e : Ex) (cell : Bool)
  | unp (tg : Tg) (e : Ex)
  | star1 (a r : Nat) (e : Ex)
  | par (is : List Nat) (es : List Ex)
  | star2 (r a : Nat) (e : Ex)
  | put (o i e : Ex)
  | ex (e : Ex)
  | ret (e : Ex)
  | ite (c : Ex) (a b : List Sm)
  | for (tg : Tg) (it : Ex) (body : List Sm)
  | while (c : Ex) (body : List Sm)
  | raise (c : Nat)
  | try (body : List Sm) (cs : List Nat) (x : Nat) (suite : List Sm)
  | pass
structure Fn where
  np : Nat
  nl : Nat
  body : List Sm
/-! ### operations -/
def listOf (m : Mem) : W → Option (List PyData)
  | .d (.list xs) => some xs
  | .new xs => some xs
  | .ref n => match m[n]? with
    | some (.lst xs) => some xs
    | some (.lk xs) => some xs
    | _ => none
  | _ => none
/-- .. or one that is only read -/
def listR (m : Mem) : W → Option (List PyData)
  | .ro xs => some xs
  | w => listOf m w
def dictOf (m : Mem) : W → Option (List (PyData × PyData))
  | .d (.dict kvs) => some kvs
  | .newd kvs => some kvs
  | .ref n => match m[n]? with
    | some (.dic kvs) => some kvs
    | _ => none
  | _ => none
/-- .. or one that is only read -/
def dictR (m : Mem) : W → Option (List (PyData × PyData))
  | .rod kvs => some kvs
  | w => dictOf m w
/-- the value as plain data -/
def dataOf (m : Mem) : W → Option PyData
  | .d x => some x
  | .new xs => some (.list xs)
  | .newd kvs => some (.dict kvs)
  | .ref n => match m[n]? with
    | some (.lst xs) => some (.list xs)
    | some (.lk xs) => some (.list xs)
    | some (.dic kvs) => some (.dict kvs)
    | none => none
  | _ => none
/-- as it is laid into a tuple, a list: a fresh list is kept as it is from there on -/
def laid : W → Option PyData
  | .d x => some x
  | .new xs => some (.list xs)
  | .newd kvs => some (.dict kvs)
  | _ => none
/-- as it is handed in -/
def handed : W → Option W
  | .new xs => some (.d (.list xs))
  | .newd kvs => some (.d (.dict kvs))
  | .it _ => none
  | .exc _ => none
  | w => some w
def handAll : List W → Option (List W)
  | [] => some []
  | w :: r => match handed w, handAll r with
    | some x, some xs => some (x :: xs)
    | _, _ => none
def signs (x : Str) : List PyData := x.cps.toList.map fun c => .str ⟨#[c]⟩
/-- what a loop walks: its items -/
def items (m : Mem) : W → Option (List PyData)
  | .d (.tuple xs) => some xs
  | .d (.str x) => some (signs x)
  | .it xs => some xs
  | w => listR m w
def sIx (n d : Nat) : Option Int → Nat
  | none => d
  | some v => if v < 0 then (v + (n : Int)).toNat else min v.toNat n
def cut {α : Type} (xs : List α) (lo hi : Option Int) : List α := (xs.drop (sIx xs.length 0 lo)).take (sIx xs.length xs.length hi - sIx xs.length 0 lo)
def cutStr (x : Str) (lo hi : Option Int) : Str := ⟨(cut x.cps.toList lo hi).toArray⟩
def ixN (n : Nat) (i : Int) : Option Nat := if 0 ≤ i then (if i < n then some i.toNat else none) else if -(n : Int) ≤ i then some (i + n).toNat else none
def atI {α : Type} (xs : List α) (i : Int) : Option α := (ixN xs.length i).bind fun j => xs[j]?
/-- a look into a dict by a text -/
def lookS (k : Str) : List (PyData × PyData) → Option PyData
  | [] => none
  | (.str x, v) :: r => if x = k then some v else lookS k r
  | _ :: r => lookS k r
def strKeys (kvs : List (PyData × PyData)) : Bool := kvs.all fun p => match p.1 with | .str _ => true | _ => false
def isKey (k : Str) : PyData → Bool
  | .str x => decide (x = k)
  | _ => false
/-- a store into a dict by a text -/
def storeS (k : Str) (v : PyData) (kvs : List (PyData × PyData)) : List (PyData × PyData) :=
  if kvs.any (fun p => isKey k p.1) then kvs.map (fun p => if isKey k p.1 then (p.1, v) else p) else kvs ++ [(.str k, v)]
def isFlat : PyData → Bool
  | .none => true
  | .bool _ => true
  | .int _ => true
  | .str _ => true
  | _ => false
mutual
def noDict : PyData → Bool
  | .list xs => noDicts xs
  | .tuple xs => noDicts xs
  | .dict _ => false
  | _ => true
def noDicts : List PyData → Bool
  | [] => true
  | x :: xs => noDict x && noDicts xs
end
def cmpOk (x : PyData) : Bool := noDict x && decide (x.depth ≤ 64)
def eqO : PyData → PyData → Option Bool
  | .tuple [], .tuple ys => some ys.isEmpty
  | .tuple xs, .tuple [] => some xs.isEmpty
  | x, y => if cmpOk x && cmpOk y then some (PyData.eqv x y) else none
def inO (x : PyData) (ys : List PyData) : Option Bool :=
  if cmpOk x && ys.all cmpOk then some (ys.any fun y => PyData.eqv y x) else none
def okW (x : PyData) : Option W := some (.d x)
def okB (b : Option Bool) : Option W := b.map fun b => .d (.bool b)
def small64 (i : Int) : Bool := decide (-(2 ^ 64) < i ∧ i < 2 ^ 64)
def binW (op : Operator) (x y : W) (m : Mem) : Option W := match op with
  | .Add => match x, y with
    | .d (.int i), .d (.int j) => some (.d (.int (i + j)))
    | .d (.str a), .d (.str b) => if a.length + b.length ≤ LINE then some (.d (.str (a ++ b))) else none
    | .d (.tuple a), .d (.tuple b) => if a.length + b.length ≤ LINE then some (.d (.tuple (a ++ b))) else none
    | x, y => match listOf m x, listOf m y with
      | some a, some b => if a.length + b.length ≤ LINE then some (.new (a ++ b)) else none
      | _, _ => none
  | .Sub => match x, y with
    | .d (.int i), .d (.int j) => some (.d (.int (i - j)))
    | _, _ => none
  | .Mult => match x, y with
    | .d (.int i), .d (.int j) => if small64 i || small64 j then some (.d (.int (i * j))) else none
    | _, _ => none
  | .FloorDiv => match x, y with
    | .d (.int i), .d (.int j) => if 0 < j ∧ j < 1073741824 then some (.d (.int (i / j))) else none
    | _, _ => none
  | .Mod => match x, y with
    | .d (.int i), .d (.int j) => if 0 < j then some (.d (.int (i % j))) else none
    | _, _ => none
  | .Pow => match x, y with
    | .d (.int i), .d (.int j) => if 0 ≤ j ∧ j ≤ 1000000 ∧ i.natAbs < 2 ^ 64 then some (.d (.int (i ^ j.toNat))) else none
    | _, _ => none
  | _ => none
def cmpW (op : CmpOp) (x y : W) (m : Mem) : Option Bool := match op with
  | .Lt => match x, y with
    | .d (.int i), .d (.int j) => some (decide (i < j))
    | _, _ => none
  | .LtE => match x, y with
    | .d (.int i), .d (.int j) => some (decide (i ≤ j))
    | _, _ => none
  | .Gt => match x, y with
    | .d (.int i), .d (.int j) => some (decide (j < i))
    | _, _ => none
  | .GtE => match x, y with
    | .d (.int i), .d (.int j) => some (decide (j ≤ i))
    | _, _ => none
  | .Eq => match dataOf m x, dataOf m y with
    | some a, some b => eqO a b
    | _, _ => none
  | .NotEq => match dataOf m x, dataOf m y with
    | some a, some b => (eqO a b).map fun b => !b
    | _, _ => none
  | .In => inW x y m
  | .NotIn => (inW x y m).map fun b => !b
  | _ => none
where
  inW (x y : W) (m : Mem) : Option Bool := match x, y with
    | .d (.str a), .d (.str b) => some (!(Builtin.Str.occurrences b a 0 b.length 1).isEmpty)
    | .d a, .d (.tuple ys) => inO a ys
    | .d a, y => match listOf m y with
      | some ys => inO a ys
      | none => match a, dictR m y with
        | .str k, some kvs => if strKeys kvs then some (lookS k kvs).isSome else none
        | _, _ => none
    | _, _ => none
def isNone : W → Bool
  | .d .none => true
  | _ => false
def truth (m : Mem) : W → Option Bool
  | .d (.bool b) => some b
  | _ => none
def boolL : List PyData → Option (List Bool)
  | [] => some []
  | .bool b :: r => (boolL r).map fun bs => b :: bs
  | _ :: _ => none
def intL : List PyData → Option (List Int)
  | [] => some []
  | .int b :: r => (intL r).map fun bs => b :: bs
  | _ :: _ => none
def strL : List PyData → Option (List Str)
  | [] => some []
  | .str b :: r => (strL r).map fun bs => b :: bs
  | _ :: _ => none
def insertBy {α : Type} (le : α → α → Bool) (x : α) : List α → List α
  | [] => [x]
  | y :: r => if le x y then x :: y :: r else y :: insertBy le x r
def sortBy {α : Type} (le : α → α → Bool) : List α → List α
  | [] => []
  | x :: r => insertBy le x (sortBy le r)
def strLe (a b : Str) : Bool := !Spec.ltCps b.cps.toList a.cps.toList
def minOf : Int → List Int → Int
  | a, [] => a
  | a, b :: r => minOf (if b < a then b else a) r
def joinLen (z : Str) (xs : List Str) : Nat := (xs.map Str.length).sum + z.length * xs.length
def pairsOf : List PyData → Option (List (Str × PyData))
  | [] => some []
  | .tuple [.str k, v] :: r => (pairsOf r).map fun ps => (k, v) :: ps
  | _ :: _ => none
/-- what sorted() takes: a list's items, a dict's keys -/
def sortArg (m : Mem) (w : W) : Option (List PyData) := match listR m w with
  | some xs => some xs
  | none => (dictOf m w).map fun kvs => kvs.map fun p => p.1
/-- a tuple's or a list's items -/
def seqOf (m : Mem) (w : W) : Option (List PyData) := match w with
  | .d (.tuple xs) => some xs
  | w => listR m w
def biW (b : Bi) (as : List W) (m : Mem) : Option W := match b, as with
  | .len, [.d (.str x)] => some (.d (.int x.length))
  | .len, [.d (.tuple xs)] => some (.d (.int xs.length))
  | .len, [w] => match listR m w with
    | some xs => some (.d (.int xs.length))
    | none => match dictR m w with
      | some kvs => some (.d (.int kvs.length))
      | none => none
  | .all, [w] => match (listOf m w).bind boolL with
    | some bs => some (.d (.bool (bs.all id)))
    | none => none
  | .any, [w] => match (listOf m w).bind boolL with
    | some bs => some (.d (.bool (bs.any id)))
    | none => none
  | .sum, [w] => match (listOf m w).bind intL with
    | some ns => some (.d (.int ns.sum))
    | none => none
  | .minl, [w] => match (listOf m w).bind intL with
    | some (a :: r) => some (.d (.int (minOf a r)))
    | _ => none
  | .min2, [.d (.int i), .d (.int j)] => some (.d (.int (if j < i then j else i)))
  | .max2, [.d (.int i), .d (.int j)] => some (.d (.int (if j > i then j else i)))
  | .sorted, [w] => match sortArg m w with
    | some xs => match strL xs with
      | some ss => if ss.length < 64 then some (.new ((sortBy strLe ss).map .str)) else none
      | none => none
    | none => none
  | .tup, [.d (.tuple xs)] => some (.d (.tuple xs))
  | .tup, [w] => match listR m w with
    | some xs => some (.d (.tuple xs))
    | none => none
  | .lst, [.d (.tuple xs)] => some (.new xs)
  | .lst, [w] => match listR m w with
    | some xs => some (.new xs)
    | none => none
  | .dct, [w] => match seqOf m w with
    | some xs => match pairsOf xs with
      | some ps => some (.newd (ps.foldl (fun acc p => storeS p.1 p.2 acc) []))
      | none => none
    | none => none
  | .int, [.d (.int i)] => some (.d (.int i))
  | .int, [.d (.bool b)] => some (.d (.int (if b then 1 else 0)))
  | .str, [.d (.int i)] => if i.natAbs.log2 < 1920 then some (.d (.str (toString i))) else none
  | .repr, [w] => match dataOf m w with
    | some x => if x.showable && decide (x.depth ≤ 64) && decide (x.shown.length ≤ LINE) then some (.d (.str x.shown)) else none
    | none => none
  | _, _ => none
def mtW (t : Mt) (o : W) (as : List W) (m : Mem) : R W := match t, o, as with
  | .append, .ref n, [w] => match m[n]?, laid w with
    | some (.lst xs), some y => if xs.length < LINE then .ok (.d .none) (m.set n (.lst (xs ++ [y]))) else .bad
    | _, _ => .bad
  | .extend, .ref n, [w] => match m[n]?, listOf m w with
    | some (.lst xs), some ys => if xs.length + ys.length ≤ LINE then .ok (.d .none) (m.set n (.lst (xs ++ ys))) else .bad
    | _, _ => .bad
  | .join, .d (.str z), [w] => match (listOf m w).bind strL with
    | some ss => if joinLen z ss ≤ LINE then .ok (.d (.str (Str.join z ss))) m else .bad
    | none => .bad
  | .get, o, [.d (.str k)] => match dictR m o with
    | some kvs => if strKeys kvs then .ok (.d ((lookS k kvs).getD .none)) m else .bad
    | none => .bad
  | .get, o, [.d (.str k), .d x] => match dictR m o with
    | some kvs => if strKeys kvs then .ok (.d ((lookS k kvs).getD x)) m else .bad
    | none => .bad
  | _, _, _ => .bad
def ixW (o i : W) (m : Mem) : Option W := match o, i with
  | .d (.tuple xs), .d (.int i) => (atI xs i).map .d
  | .d (.str x), .d (.int i) => (atI x.cps.toList i).map fun c => .d (.str ⟨#[c]⟩)
  | o, .d (.int i) => match listR m o with
    | some xs => (atI xs i).map .d
    | none => none
  | o, .d (.str k) => match dictR m o with
    | some kvs => if strKeys kvs then (lookS k kvs).map .d else none
    | none => none
  | _, _ => none
def intO : List W → Option (Option Int)
  | [] => some none
  | [.d (.int i)] => some (some i)
  | _ => none
def slW (o : W) (a b : Option Int) (m : Mem) : Option W := match o with
  | .d (.tuple xs) => some (.d (.tuple (cut xs a b)))
  | .d (.str x) => some (.d (.str (cutStr x a b)))
  | o => match listR m o with
    | some xs => some (.new (cut xs a b))
    | none => none
/-- xs[a:b:k] -/
def pickL {α : Type} (xs : List α) (a b k : Option Int) : List α :=
  (sliceRange (sliceBounds a b k xs.length).1 (sliceBounds a b k xs.length).2.1 (sliceBounds a b k xs.length).2.2).filterMap (xs[·]?)
def stepW (o : W) (lo hi st : Option Int) (m : Mem) : Option W := match o with
  | .d (.tuple xs) => if lo = none ∧ hi = none ∧ st = some (-1) then some (.d (.tuple xs.reverse)) else none
  | .d (.str x) => if lo = none ∧ hi = none ∧ st = some (-1) then some (.d (.str ⟨x.cps.toList.reverse.toArray⟩)) else none
  | o => match listR m o with
    | some xs => if st ≠ some 0 then some (.new (pickL xs lo hi st)) else none
    | none => none
def rngW : List W → Option W
  | [.d (.int j)] => if -(2 ^ 62) ≤ j ∧ j < 2 ^ 62 ∧ j ≤ LINE then some (.it ((List.range j.toNat).map fun k => .int (k : Nat))) else none
  | [.d (.int i), .d (.int j)] => if -(2 ^ 62) ≤ i ∧ i < 2 ^ 62 ∧ -(2 ^ 62) ≤ j ∧ j < 2 ^ 62 ∧ j - i ≤ LINE then some (.it ((List.range (j - i).toNat).map fun k => .int (i + (k : Nat)))) else none
  | _ => none
/-- a list that stays as it is -/
def listZ : W → Option (List PyData)
  | .ro xs => some xs
  | .new xs => some xs
  | .d (.list xs) => some xs
  | _ => none
/-- what a second clause walks: it stays as it is -/
def itemsZ : W → Option (List PyData)
  | .d (.tuple xs) => some xs
  | .d (.str x) => some (signs x)
  | .it xs => some xs
  | w => listZ w
def enmW (w : W) : Option W := match listZ w with
  | some xs => some (.it (xs.zipIdx.map fun p => .tuple [.int (p.2 : Nat), p.1]))
  | none => none
def zipL (xs ys : List PyData) : List PyData := List.zipWith (fun a b => .tuple [a, b]) xs ys
def zipW (x y : W) : Option W := match x, y with
  | .d (.tuple xs), .d (.tuple ys) => some (.it (zipL xs ys))
  | x, y => match listZ x, listZ y with
    | some xs, some ys => some (.it (zipL xs ys))
    | _, _ => none
/-- a target's names, from a value's parts -/
def tgSet : Tg → PyData → En → Option En
  | .v i, x, ρ => some (ρ.set i (some (.d x)))
  | .t2 a b, .tuple [x, y], ρ => (tgSet a x ρ).bind (tgSet b y)
  | .t3 a b c, .tuple [x, y, z], ρ => ((tgSet a x ρ).bind (tgSet b y)).bind (tgSet c z)
  | .t2 a b, .list [x, y], ρ => (tgSet a x ρ).bind (tgSet b y)
  | .t3 a b c, .list [x, y, z], ρ => ((tgSet a x ρ).bind (tgSet b y)).bind (tgSet c z)
  | _, _, _ => none
def wipeE (ρ : En) : List Nat → En
  | [] => ρ
  | v :: vs => (wipeE ρ vs).set v none
def laidAll : List W → Option (List PyData)
  | [] => some []
  | w :: r => match laid w, laidAll r with
    | some x, some xs => some (x :: xs)
    | _, _ => none
/-- a cell is locked while a loop walks it -/
def lockOf (m : Mem) : W → Option Nat
  | .ref n => match m[n]? with
    | some (.lst _) => some n
    | _ => none
  | _ => none
def lockM (m : Mem) : Option Nat → Mem
  | none => m
  | some n => match m[n]? with
    | some (.lst xs) => m.set n (.lk xs)
    | _ => m
def unlockM (m : Mem) : Option Nat → Mem
  | none => m
  | some n => match m[n]? with
    | some (.lk xs) => m.set n (.lst xs)
    | _ => m
/-- a turn's end: what it gave is put to the others -/
def lcAdd {β γ : Type} (add : β → γ → Option γ) (go : γ → Mem → R γ) (acc : γ) (o : Option β) (m : Mem) : R γ := match o with
  | none => go acc m
  | some y => match add y acc with
    | some acc => go acc m
    | none => .bad
/-- the turns of a comprehension -/
def lcGo {β γ : Type} (f : PyData → Mem → R (Option β)) (add : β → γ → Option γ) : List PyData → γ → Mem → R γ
  | [], acc, m => .ok acc m
  | x :: xs, acc, m => (f x m).bind fun o m => lcAdd add (lcGo f add xs) acc o m
/-- the turns of a first clause: each puts its own to what is there -/
def lc2Go {γ : Type} (f : PyData → γ → Mem → R γ) : List PyData → γ → Mem → R γ
  | [], acc, m => .ok acc m
  | x :: xs, acc, m => (f x acc m).bind (lc2Go f xs)
def lc2Walk {γ : Type} (f : PyData → γ → Mem → R γ) (acc : γ) (w : W) (m : Mem) : R γ := match items m w with
  | some xs => match lc2Go f xs acc (lockM m (lockOf m w)) with
    | .ok r m' => .ok r (unlockM m' (lockOf m w))
    | _ => .bad
  | none => .bad
/-- .. over what stands there; nothing may be raised within -/
def lcWalk {β γ : Type} (f : PyData → Mem → R (Option β)) (add : β → γ → Option γ) (acc : γ) (w : W) (m : Mem) : R γ := match items m w with
  | some xs => match lcGo f add xs acc (lockM m (lockOf m w)) with
    | .ok r m' => .ok r (unlockM m' (lockOf m w))
    | _ => .bad
  | none => .bad
def addL (y : PyData) (acc : List PyData) : Option (List PyData) := if acc.length < LINE then some (acc ++ [y]) else none
def addD (p : Str × PyData) (acc : List (PyData × PyData)) : Option (List (PyData × PyData)) := if acc.length < LINE then some (storeS p.1 p.2 acc) else none
def addS (k : Str) (acc : List Str) : Option (List Str) := if acc.length < 4000 then some (if k ∈ acc then acc else acc ++ [k]) else none
/-- what the text around gives: the defs, which class is under which, how long a while may go on -/
structure Cs where
  call : Nat → List W → Mem → R W
  sub : Nat → List Nat → Option Bool
  turns : Nat
def isiD : PyData → Ty → Bool
  | .int _, .int => true
  | .bool _, .int => true
  | .bool _, .bool => true
  | .str _, .str => true
  | .tuple _, .tuple => true
  | .list _, .list => true
  | .dict _, .dict => true
  | _, _ => false
def clsL : List Ty → Option (List Nat)
  | [] => some []
  | .cls k :: r => (clsL r).map fun ks => k :: ks
  | _ :: _ => none
def isCls : Ty → Bool
  | .cls _ => true
  | _ => false
def isiW (sub : Nat → List Nat → Option Bool) (m : Mem) (ts : List Ty) : W → Option Bool
  | .exc c => (clsL ts).bind (sub c)
  | w => if ts.any isCls then none else (dataOf m w).map fun x => ts.any (isiD x)
/-- the receiver is of the method's type -/
def recvOk (t : Mt) (o : W) (m : Mem) : Bool := match t, o with
  | .append, .ref n => match m[n]? with
    | some (.lst _) => true
    | _ => false
  | .extend, .ref n => match m[n]? with
    | some (.lst _) => true
    | _ => false
  | .join, .d (.str _) => true
  | .get, o => (dictR m o).isSome
  | _, _ => false
section
variable (F : Cs)
mutual
def ev : Ex → En → Mem → R W
  | .c x, _, m => .ok (.d x) m
  | .g _ x, _, m => .ok (.d x) m
  | .gd _ kvs, _, m => .ok (.rod kvs) m
  | .dnew, _, m => .ok (.newd []) m
  | .v i, ρ, m => match ρ[i]? with
    | some (some w) => .ok w m
    | _ => .bad
  | .bin op a b, ρ, m => (ev a ρ m).bind fun x m => (ev b ρ m).bind fun y m => .of m (binW op x y m)
  | .neg a, ρ, m => (ev a ρ m).bind fun x m => match x with
    | .d (.int i) => .ok (.d (.int (-i))) m
    | _ => .bad
  | .cmp op a b, ρ, m => (ev a ρ m).bind fun x m => (ev b ρ m).bind fun y m => .of m (okB (cmpW op x y m))
  | .isN a, ρ, m => (ev a ρ m).bind fun x m => .ok (.d (.bool (isNone x))) m
  | .notN a, ρ, m => (ev a ρ m).bind fun x m => .ok (.d (.bool (!isNone x))) m
  | .chn o1 o2 a b c, ρ, m => (ev a ρ m).bind fun x m => (ev b ρ m).bind fun y m => match cmpW o1 x y m with
    | some true => (ev c ρ m).bind fun z m => .of m (okB (cmpW o2 y z m))
    | some false => .ok (.d (.bool false)) m
    | none => .bad
  | .not a, ρ, m => (ev a ρ m).bind fun w m => (R.of m (truth m w)).bind fun b m => .ok (.d (.bool (!b))) m
  | .and es, ρ, m => evAnd es ρ m
  | .or es, ρ, m => evOr es ρ m
  | .ite c a b, ρ, m => (ev c ρ m).bind fun w m => (R.of m (truth m w)).bind fun t m => if t then ev a ρ m else ev b ρ m
  | .tup es, ρ, m => (evs es ρ m).bind fun xs m => .of m ((laidAll xs).map fun ys => .d (.tuple ys))
  | .lst es, ρ, m => (evs es ρ m).bind fun xs m => .of m ((laidAll xs).map fun ys => .new ys)
  | .ix a i, ρ, m => (ev a ρ m).bind fun x m => (ev i ρ m).bind fun y m => .of m (ixW x y m)
  | .sl a lo hi, ρ, m => (ev a ρ m).bind fun x m => ((evs lo ρ m).bind fun l m => R.of m (intO l)).bind fun l m => ((evs hi ρ m).bind fun h m => R.of m (intO h)).bind fun h m => .of m (slW x l h m)
  | .step a lo hi st, ρ, m => (ev a ρ m).bind fun x m => ((evs lo ρ m).bind fun l m => R.of m (intO l)).bind fun l m => ((evs hi ρ m).bind fun h m => R.of m (intO h)).bind fun h m => ((evs st ρ m).bind fun k m => R.of m (intO k)).bind fun k m => .of m (stepW x l h k m)
  | .call f as, ρ, m => (evs as ρ m).bind fun xs m => match handAll xs with
    | some xs => F.call f xs m
    | none => .bad
  | .bi b as, ρ, m => (evs as ρ m).bind fun xs m => .of m (biW b xs m)
  | .mt t o as, ρ, m => (ev o ρ m).bind fun x m => if recvOk t x m then (evs as ρ m).bind fun xs m => mtW t x xs m else .bad
  | .isi a ts, ρ, m => (ev a ρ m).bind fun x m => .of m (okB (isiW F.sub m ts x))
  | .lc el own tg it co, ρ, m => (ev it ρ m).bind fun w m => (lcWalk (fun x m => match tgSet tg x (wipeE ρ own) with
      | some ρ' => (trAll co ρ' m).bind fun b m => if b then (ev el ρ' m).bind fun y m => .of m ((laid y).map some) else .ok none m
      | none => .bad) addL [] w m).bind fun r m => .ok (.new r) m
  | .lc2 el own tg it co own1 tg1 it1 co1, ρ, m => (ev it ρ m).bind fun w m => (lc2Walk (fun x acc m => match tgSet tg x (wipeE ρ own) with
      | some ρ' => (trAll co ρ' m).bind fun b m => if b then (ev it1 ρ' m).bind fun w1 m => match itemsZ w1 with
          | some ys => lcGo (fun y m => match tgSet tg1 y (wipeE ρ' own1) with
              | some ρ2 => (trAll co1 ρ2 m).bind fun b m => if b then (ev el ρ2 m).bind fun z m => .of m ((laid z).map some) else .ok none m
              | none => .bad) addL ys acc m
          | none => .bad
        else .ok acc m
      | none => .bad) [] w m).bind fun r m => .ok (.new r) m
  | .dc k v own tg it co, ρ, m => (ev it ρ m).bind fun w m => (lcWalk (fun x m => match tgSet tg x (wipeE ρ own) with
      | some ρ' => (trAll co ρ' m).bind fun b m => if b then (ev k ρ' m).bind fun y m => (ev v ρ' m).bind fun z m => match y, laid z with
          | .d (.str k), some z => .ok (some (k, z)) m
          | _, _ => .bad
        else .ok none m
      | none => .bad) addD [] w m).bind fun r m => .ok (.newd r) m
  | .sclen el own tg it co, ρ, m => (ev it ρ m).bind fun w m => (lcWalk (fun x m => match tgSet tg x (wipeE ρ own) with
      | some ρ' => (trAll co ρ' m).bind fun b m => if b then (ev el ρ' m).bind fun y m => match y with
          | .d (.str k) => .ok (some k) m
          | _ => .bad
        else .ok none m
      | none => .bad) addS [] w m).bind fun r m => .ok (.d (.int r.length)) m
  | .rng es, ρ, m => (evs es ρ m).bind fun xs m => .of m (rngW xs)
  | .enm as, ρ, m => (evs as ρ m).bind fun xs m => .of m (match xs with
    | [w] => enmW w
    | _ => none)
  | .zip as, ρ, m => (evs as ρ m).bind fun xs m => .of m (match xs with
    | [x, y] => zipW x y
    | _ => none)
def evs : List Ex → En → Mem → R (List W)
  | [], _, m => .ok [] m
  | e :: es, ρ, m => (ev e ρ m).bind fun x m => (evs es ρ m).bind fun xs m => .ok (x :: xs) m
def trAll : List Ex → En → Mem → R Bool
  | [], _, m => .ok true m
  | e :: es, ρ, m => (ev e ρ m).bind fun w m => (R.of m (truth m w)).bind fun b m => if b then trAll es ρ m else .ok false m
def trAny : List Ex → En → Mem → R Bool
  | [], _, m => .ok false m
  | e :: es, ρ, m => (ev e ρ m).bind fun w m => (R.of m (truth m w)).bind fun b m => if b then .ok true m else trAny es ρ m
def evAnd : List Ex → En → Mem → R W
  | [], _, _ => .bad
  | [e], ρ, m => ev e ρ m
  | e :: es, ρ, m => (ev e ρ m).bind fun w m => match w with
    | .d (.bool true) => evAnd es ρ m
    | .d (.bool false) => .ok (.d (.bool false)) m
    | _ => .bad
def evOr : List Ex → En → Mem → R W
  | [], _, _ => .bad
  | [e], ρ, m => ev e ρ m
  | e :: es, ρ, m => (ev e ρ m).bind fun w m => match w with
    | .d (.bool false) => evOr es ρ m
    | .d (.bool true) => .ok (.d (.bool true)) m
    | _ => .bad
end
end
/-! ### statements -/
inductive Fl where
  | nx | ret (w : W) | brk | cnt
inductive RS where
  | ok (f : Fl) (ρ : En) (m : Mem) | exc (c : Nat) (ρ : En) (m : Mem) | bad
def R.then {α : Type} (r : R α) (ρ : En) (f : α → Mem → RS) : RS := match r with
  | .ok a m => f a m
  | .exc c m => .exc c ρ m
  | .bad => .bad
def RS.next (r : RS) (f : En → Mem → RS) : RS := match r with
  | .ok .nx ρ m => f ρ m
  | r => r
/-- names without what holds an exception -/
def unexc : Option W → Option W
  | some (.exc _) => none
  | o => o
/-- behind an except suite: its name is gone; nothing may be raised there -/
def RS.quit (r : RS) (x : Nat) : RS := match r with
  | .ok (.ret (.exc _)) _ _ => .bad
  | .ok (.ret w) ρ m => .ok (.ret w) (ρ.map unexc) m
  | .ok f ρ m => .ok f ((ρ.map unexc).set x none) m
  | _ => .bad
/-- name = value -/
def store (i : Nat) (cell : Bool) (w : W) (ρ : En) (m : Mem) : RS := match w with
  | .new xs => if cell then .ok .nx (ρ.set i (some (.ref m.length))) (m ++ [.lst xs]) else .ok .nx (ρ.set i (some (.d (.list xs)))) m
  | .newd kvs => if cell then .ok .nx (ρ.set i (some (.ref m.length))) (m ++ [.dic kvs]) else .ok .nx (ρ.set i (some (.d (.dict kvs)))) m
  | .it _ => .bad
  | w => .ok .nx (ρ.set i (some w)) m
def putW (o i w : W) (m : Mem) : Option Mem := match o, i, laid w with
  | .ref n, .d (.int i), some y => match m[n]? with
    | some (.lst xs) => (ixN xs.length i).map fun j => m.set n (.lst (xs.set j y))
    | _ => none
  | .ref n, .d (.str k), some y => match m[n]? with
    | some (.dic kvs) => if strKeys kvs && decide (kvs.length < LINE) then some (m.set n (.dic (storeS k y kvs))) else none
    | _ => none
  | _, _, _ => none
def setMany : List Nat → List PyData → En → En
  | i :: is, x :: xs, ρ => setMany is xs (ρ.set i (some (.d x)))
  | _, _, ρ => ρ
/-- a, b = x, y: the values are laid as they are -/
def parE (is : List Nat) (ws : List W) (ρ : En) (m : Mem) : RS := match laidAll ws with
  | some ds => if is.length = ds.length then .ok .nx (setMany is ds ρ) m else .bad
  | none => .bad
/-- the turns of a for -/
def forGo (tg : Tg) (body : En → Mem → RS) : List PyData → En → Mem → RS
  | [], ρ, m => .ok .nx ρ m
  | x :: xs, ρ, m => match tgSet tg x ρ with
    | none => .bad
    | some ρ => match body ρ m with
      | .ok .nx ρ m => forGo tg body xs ρ m
      | .ok .cnt ρ m => forGo tg body xs ρ m
      | .ok .brk ρ m => .ok .nx ρ m
      | r => r
def whileGo (test : En → Mem → R Bool) (body : En → Mem → RS) : Nat → En → Mem → RS
  | 0, _, _ => .bad
  | k + 1, ρ, m => (test ρ m).then ρ fun b m => if b then match body ρ m with
      | .ok .nx ρ m => whileGo test body k ρ m
      | .ok .cnt ρ m => whileGo test body k ρ m
      | .ok .brk ρ m => .ok .nx ρ m
      | r => r
    else .ok .nx ρ m
def RS.unlock (r : RS) (k : Option Nat) : RS := match r with
  | .ok f ρ m => .ok f ρ (unlockM m k)
  | .exc c ρ m => .exc c ρ (unlockM m k)
  | .bad => .bad
section
variable (F : Cs)
mutual
def ex : Sm → En → Mem → RS
  | .set i e cell, ρ, m => (ev F e ρ m).then ρ fun w m => store i cell w ρ m
  | .unp tg e, ρ, m => (ev F e ρ m).then ρ fun w m => match laid w with
    | some x => match tgSet tg x ρ with
      | some ρ => .ok .nx ρ m
      | none => .bad
    | none => .bad
  | .par is es, ρ, m => (evs F es ρ m).then ρ fun ws m => parE is ws ρ m
  | .star1 a r e, ρ, m => (ev F e ρ m).then ρ fun w m => match w with
    | .d (.tuple (x :: xs)) => .ok .nx ((ρ.set a (some (.d x))).set r (some (.d (.list xs)))) m
    | _ => .bad
  | .star2 r a e, ρ, m => (ev F e ρ m).then ρ fun w m => match w with
    | .d (.tuple xs) => match xs.getLast? with
      | some x => .ok .nx ((ρ.set r (some (.d (.list xs.dropLast)))).set a (some (.d x))) m
      | none => .bad
    | _ => .bad
  | .put o i e, ρ, m => (ev F e ρ m).then ρ fun w m => (ev F o ρ m).then ρ fun x m => (ev F i ρ m).then ρ fun y m => match putW x y w m with
    | some m => .ok .nx ρ m
    | none => .bad
  | .ex e, ρ, m => (ev F e ρ m).then ρ fun _ m => .ok .nx ρ m
  | .ret e, ρ, m => (ev F e ρ m).then ρ fun w m => .ok (.ret w) ρ m
  | .ite c a b, ρ, m => (ev F c ρ m).then ρ fun w m => match truth m w with
    | some true => exs a ρ m
    | some false => exs b ρ m
    | none => .bad
  | .for tg it body, ρ, m => (ev F it ρ m).then ρ fun w m => match items m w with
    | some xs => (forGo tg (exs body) xs ρ (lockM m (lockOf m w))).unlock (lockOf m w)
    | none => .bad
  | .while c body, ρ, m => whileGo (fun ρ m => (ev F c ρ m).bind fun w m => .of m (truth m w)) (exs body) F.turns ρ m
  | .raise c, ρ, m => .exc c ρ m
  | .try body cs x suite, ρ, m => match exs body ρ m with
    | .exc c ρ m => match F.sub c cs with
      | some true => (exs suite (ρ.set x (some (.exc c))) m).quit x
      | some false => .exc c ρ m
      | none => .bad
    | r => r
  | .pass, ρ, m => .ok .nx ρ m
def exs : List Sm → En → Mem → RS
  | [], ρ, m => .ok .nx ρ m
  | s :: r, ρ, m => (ex s ρ m).next fun ρ m => exs r ρ m
end
/-- a def's end: its own cells are forgotten; a fresh list that it hands back is the caller's -/
def finish (k : Nat) (w : W) (m : Mem) : R W := match w with
  | .ref n => if n < k then .ok (.ref n) (m.take k) else match m[n]? with
    | some (.lst xs) => .ok (.new xs) (m.take k)
    | some (.dic kvs) => .ok (.newd kvs) (m.take k)
    | _ => .bad
  | .it _ => .bad
  | .exc _ => .bad
  | w => .ok w (m.take k)
def runF (f : Fn) (as : List W) (m : Mem) : R W :=
  if as.length = f.np then match exs F f.body (as.map some ++ List.replicate (f.nl - f.np) none) m with
    | .ok .nx _ m' => finish m.length (.d .none) m'
    | .ok (.ret w) _ m' => finish m.length w m'
    | .exc c _ m' => .exc c (m'.take m.length)
    | _ => .bad
  else .bad
end
structure Pg where
  fns : List Fn
  sub : Nat → List Nat → Option Bool
  turns : Nat
def Pg.cs (P : Pg) (call : Nat → List W → Mem → R W) : Cs := ⟨call, P.sub, P.turns⟩
def callF (P : Pg) : Nat → Nat → List W → Mem → R W
  | 0, _, _, _ => .bad
  | k + 1, i, as, m => match P.fns[i]? with
    | some f => runF (P.cs (callF P k)) f as m
    | none => .bad
end Lo
/-! a, *b = a tuple or a list; *a, b = .. -/
namespace Lo
open PySem PySem.Spec PyProof.Rows L2
section
variable {prog : Program} {w : World} {A : Around} {E : Value → Shared → Prop} {s : Shared}
/-- what is behind the d-th item of a tuple -/
theorem walk_behind (hh : A.handled = none) (I t : Addr) (hne : t ≠ I) (items : Array Value) (d : Nat) (hd : d ≤ items.size) :
    Walks prog w A I [I, t] [I] (items.size - d) (fun i v => items[d + i]? = some v) (fun i h => h.IsTupleIter I t (d + i) ∧ h.IsTuple t items) where
  sub := fun b hb => by simp at hb; simp [hb]
  frame := fun _ _ _ st hk => ⟨st.1.at fun o e => hk I (by simp) o e, st.2.at fun o e => hk t (by simp) o e⟩
  item := fun i s Q E hi st hQ => by
    have hi' : d + i < items.size := by omega
    refine wpAny_pyNext_tuple_item st.1 st.2 (x := items[d + i]) (by simp [hi']) fun h' hit' hs' => ?_
    exact hQ _ h' s.toks (by simp [hi']) ⟨hit', st.2.extBut hs'.extBut hne⟩ fun b o hb e => hs'.extBut b o (fun h => hb (by simp [h])) e
  done := fun s Q E st hQ => wpAny_pyNext_tuple_end hh st.1 st.2 (by simp; omega) fun h' he' => hQ h' s.toks fun b o hb e => he' b o (fun h => hb (by simp [h])) e
  self := fun _ _ _ _ st hQ => wpAny_pyIter_tupleiter st.1 hQ
theorem items_behind {items acc : Array Value} {d : Nat} (h : ItemsOf (fun i v => items[d + i]? = some v) acc (items.size - d)) : acc.toList = items.toList.drop d := by
  refine List.ext_getElem? fun j => ?_
  rw [List.getElem?_drop, Array.getElem?_toList, Array.getElem?_toList]
  cases e : acc[j]? with
  | some v => exact (h.2 j v e).symm
  | none =>
    have h1 : acc.size ≤ j := Array.getElem?_eq_none_iff.mp e
    rw [h.1] at h1
    exact (Array.getElem?_eq_none_iff.mpr (by omega)).symm
/-- the items of a tuple, those that a starred name takes in a new list -/
theorem star_tuple {t : Addr} {items : Array Value} {n i : Nat} {Q : List Value → Shared → Prop} (hh : A.handled = none) (ht : s.heap.IsTuple t items) (hi : i ≤ items.size) (hn : n - 1 - i ≤ items.size - i) (hz : items.size ≤ sizeLine)
    (hQ : ∀ (h' : Heap) (tk : Nat), (∀ b o, s.heap.get? b = some o → h'.get? b = some o) → Q (items.toList.take i ++ [.ref h'.objs.size] ++ (items.toList.drop i).drop (items.size - i - (n - 1 - i)))
      { s with heap := h'.push { cls := .type "list", data := .seq ((items.toList.drop i).take (items.size - i - (n - 1 - i))).toArray }, toks := tk }) : wpAny (model prog w) A (unpackItems (.ref t) n (some i)) Q E s := by
  have hlt : t ≠ s.heap.objs.size := by obtain ⟨o, ho, _⟩ := ht; exact Nat.ne_of_lt (Heap.lt_size ho)
  unfold unpackItems
  refine wpAny_bind ?_
  unfold notIterableAtAll
  refine wpAny_bind (wpAny_specialOf ht.typeIs slot_tuple_iter.lookup ?_)
  refine wpAny_pure ?_
  simp only [Bool.false_eq_true, if_false]
  refine wpAny_bind (wpAny_holding (wpAny_pyIter_tuple ht ?_))
  refine wpAny_bind (wpAny_holding (wpAny_draw_tuple hlt i 0 _ _ ⟨_, Heap.get?_push_size _ rfl, rfl, rfl⟩ (ht.push _) (by omega) fun h₁ hit₁ hs₁ => ?_))
  rw [List.drop_zero]
  rw [if_neg (by rw [List.length_take, Array.length_toList]; omega)]
  rw [Nat.zero_add] at hit₁
  have ht₁ : h₁.IsTuple t items := (ht.push _).extBut hs₁.extBut hlt
  have k1 : ∀ b o, s.heap.get? b = some o → h₁.get? b = some o := fun b o e => hs₁.extBut b o (Nat.ne_of_lt (Heap.lt_size e)) (Heap.get?_push_of_some _ e)
  refine wpAny_bind (wpAny_holding (wpAny_collect_iter (T := "tuple_iterator") (n := items.size - i) (.inr (.inr (.inr rfl))) (walk_behind (A := A.in1) (show A.in1.handled = none from hh) s.heap.objs.size t hlt items i hi).toS (fun _ _ st => st.1.typeIs) ⟨hit₁, ht₁⟩ (fun b hb => ?_) (by simp) (fun s' acc hm hacc => ?_) (by omega)))
  · rcases List.mem_cons.mp hb with rfl | hb
    · obtain ⟨o, ho, _⟩ := hit₁; exact Heap.lt_size ho
    · rw [List.mem_singleton.mp hb]; obtain ⟨o, ho, _⟩ := ht₁; exact Heap.lt_size ho
  · have e := items_behind hacc
    obtain ⟨hp', gens', drawn', toks', os'⟩ := s'
    have eg : gens' = s.gens := hm.gens
    have ed : drawn' = s.drawn := hm.drawn
    have eo : os' = s.os := hm.os
    subst eg ed eo
    have k2 : ∀ b o, s.heap.get? b = some o → hp'.get? b = some o := fun b o e => hm.heap b o (by simpa using Nat.ne_of_lt (Heap.lt_size e)) (k1 b o e)
    have el : (items.toList.drop i).length = items.size - i := by rw [List.length_drop, Array.length_toList]
    rw [e]
    rw [if_neg (by rw [el]; omega)]
    rw [el]
    refine wpAny_bind (wpAny_newList ?_ (by rw [List.length_take, el]; omega))
    refine wpAny_pure ?_
    exact hQ hp' toks' k2
end
section
variable {X : Cx} {a r : Expr} {k : Nat} {pos p2 : Pos}
/-- (a, *r) = a tuple -/
def gStar1 (K : PySem.W.Frag) (t : TGs) : TG := fun v σ H Q => ∃ p x xs, v = .ref p ∧ SqT K H p (x :: xs) ∧ ∀ l, H l = none → t [x, .ref l] σ (upd H l (.lst xs)) Q
theorem pg_star1 {t : TGs} (hc : X.calm = true) (h : PGs X [a, r] t) (ha : assignEach [a, .Starred r p2] X.env = [(false, assign a X.env), (true, assign r X.env)]) (hm : (assignEach [a, r] X.env).map (·.2) = [assign a X.env, assign r X.env]) :
    PG X (.Tuple [a, .Starred r p2] k pos) (gStar1 X.K t) := by
  refine ⟨fun pins s σ H v u Q I rv ⟨p, x, xs, e, hq, q⟩ => ?_⟩
  subst e
  cases rv
  obtain ⟨its, rs, ht, hz⟩ := I.tuple hq
  rw [PyProof.Rows.assign_Tuple, ha]
  refine wpAny_bind (wpAny_standAt ?_)
  unfold unpack
  cases rs with
  | cons r1 r2 =>
    rename_i u1 us
    have hl := r2.length
    have hz' : us.length + 1 ≤ sizeLine := by rw [← hl]; exact hz
    refine wpAny_bind (wpAny_holding (star_tuple (n := 2) (i := 1) (items := (u1 :: us).toArray) (I.ok.hd hc) (show s.heap.IsTuple p _ from ht) (by simp) (by simp) (by simpa using hz') fun h' tk kp => ?_))
    have e1 : (u1 :: us).toArray.size - 1 - (2 - 1 - 1) = us.length := by simp
    rw [e1]
    have e2 : (u1 :: us).toArray.toList.take 1 ++ [Value.ref h'.objs.size] ++ ((u1 :: us).toArray.toList.drop 1).drop us.length = [u1, .ref h'.objs.size] := by simp
    have e3 : (((u1 :: us).toArray.toList.drop 1).take us.length).toArray = us.toArray := by simp
    rw [e2, e3]
    have I1 : Inv X pins σ H { s with heap := h', toks := tk } := I.kept kp
    have I2 : Inv X pins σ (upd H h'.objs.size (.lst xs)) { s with heap := h'.push { cls := .type "list", data := .seq us.toArray }, toks := tk } :=
      I1.laid (t' := tk) (fun b o e => Heap.get?_push_of_some _ e) (Nat.le_refl _) ⟨by rw [hl]; omega, us, 0, r2, Heap.get?_push_size _ rfl⟩
    have q2 := h.run pins _ σ _ [x, .ref h'.objs.size] [u1, .ref h'.objs.size] Q I2 (.cons r1 (.cons rfl .nil)) (q _ (I1.hok.fresh (Nat.le_refl _)))
    rw [hm] at q2
    exact q2
/-- (*r, a) = a tuple -/
def gStar2 (K : PySem.W.Frag) (t : TGs) : TG := fun v σ H Q => ∃ p x xs, v = .ref p ∧ SqT K H p (xs ++ [x]) ∧ ∀ l, H l = none → t [.ref l, x] σ (upd H l (.lst xs)) Q
theorem vals_snoc {x : V} : ∀ {xs : List V} {us : List Value}, Vals (xs ++ [x]) us → ∃ ws w, us = ws ++ [w] ∧ Vals xs ws ∧ RelV x w
  | [], us, h => by cases h with | cons r t => cases t; exact ⟨[], _, rfl, .nil, r⟩
  | y :: xs, us, h => by
    cases h with
    | cons r t =>
      obtain ⟨ws, w, e, h1, h2⟩ := vals_snoc t
      subst e
      exact ⟨_ :: ws, w, rfl, .cons r h1, h2⟩
theorem pg_star2 {t : TGs} (hc : X.calm = true) (h : PGs X [r, a] t) (ha : assignEach [.Starred r p2, a] X.env = [(true, assign r X.env), (false, assign a X.env)]) (hm : (assignEach [r, a] X.env).map (·.2) = [assign r X.env, assign a X.env]) :
    PG X (.Tuple [.Starred r p2, a] k pos) (gStar2 X.K t) := by
  refine ⟨fun pins s σ H v u Q I rv ⟨p, x, xs, e, hq, q⟩ => ?_⟩
  subst e
  cases rv
  obtain ⟨its, rs, ht, hz⟩ := I.tuple hq
  rw [PyProof.Rows.assign_Tuple, ha]
  refine wpAny_bind (wpAny_standAt ?_)
  unfold unpack
  obtain ⟨us, u1, rfl, r2, r1⟩ := vals_snoc rs
  have hl := r2.length
  have hz' : us.length + 1 ≤ sizeLine := by rw [List.length_append, List.length_singleton] at hz; rw [← hl]; exact hz
  refine wpAny_bind (wpAny_holding (star_tuple (n := 2) (i := 0) (items := (us ++ [u1]).toArray) (I.ok.hd hc) (show s.heap.IsTuple p _ from ht) (by simp) (by simp) (by simpa using hz') fun h' tk kp => ?_))
  have e1 : (us ++ [u1]).toArray.size - 0 - (2 - 1 - 0) = us.length := by simp
  rw [e1]
  have e2 : (us ++ [u1]).toArray.toList.take 0 ++ [Value.ref h'.objs.size] ++ ((us ++ [u1]).toArray.toList.drop 0).drop us.length = [.ref h'.objs.size, u1] := by simp
  have e3 : (((us ++ [u1]).toArray.toList.drop 0).take us.length).toArray = us.toArray := by simp
  rw [e2, e3]
  have I1 : Inv X pins σ H { s with heap := h', toks := tk } := I.kept kp
  have I2 : Inv X pins σ (upd H h'.objs.size (.lst xs)) { s with heap := h'.push { cls := .type "list", data := .seq us.toArray }, toks := tk } :=
    I1.laid (t' := tk) (fun b o e => Heap.get?_push_of_some _ e) (Nat.le_refl _) ⟨by rw [hl]; omega, us, 0, r2, Heap.get?_push_size _ rfl⟩
  have q2 := h.run pins _ σ _ [.ref h'.objs.size, x] [.ref h'.objs.size, u1] Q I2 (.cons rfl (.cons r1 .nil)) (q _ (I1.hok.fresh (Nat.le_refl _)))
  rw [hm] at q2
  exact q2
end
end Lo
/-! New tuples, known to their object: it has no dict. -/
namespace Lo
open PySem PySem.Spec PyProof.Rows L2
/-- a tuple whose object has no dict, tracked or written -/
def TpAt (K : PySem.W.Frag) (H : Hp) (a : Addr) (xs : List V) : Prop :=
  (∃ o, H a = some (.frz o (.tup xs)) ∧ o.dict = none) ∨
    ∃ (o : Obj) (its : Array Value) (n : Nat), K.lookup a = some o ∧ o.cls = .type "tuple" ∧ o.data = .seq its n ∧ its.size ≤ sizeLine ∧ Vals xs its.toList ∧ o.dict = none
theorem TpAt.sq {K : PySem.W.Frag} {H : Hp} {a : Addr} {xs : List V} (h : TpAt K H a xs) : SqT K H a xs := by
  rcases h with ⟨o, h, _⟩ | ⟨o, its, n, h1, h2, h3, h4, h5, _⟩
  · exact .inl (.inr ⟨o, h⟩)
  · exact .inr ⟨o, its, n, h1, h2, h3, h4, h5⟩
section
variable {X : Cx} {pins : List (Addr × Obj)} {σ : L2.St} {H : Hp} {s : Shared} {Q : VK}
/-- the object of such a tuple -/
theorem TpAt.plain {a : Addr} {xs : List V} (I : Inv X pins σ H s) (h : TpAt X.K H a xs) : ∃ its : List Value, Vals xs its ∧ PlainSeq "tuple" s.heap a its.toArray := by
  rcases h with ⟨o, h, hd⟩ | ⟨o, its, n, h1, h2, h3, h4, h5, hd⟩
  · obtain ⟨e, _, its, r, o', e', hc, n, hdat⟩ := (show ObjOk X.prog X.w H s.heap a (.frz o (.tup xs)) from I.hok a _ h)
    rw [e] at e'; cases e'
    exact ⟨its, r, o, n, e, hc, hd, hdat⟩
  · exact ⟨its.toList, h5, o, n, I.kIn a o h1, h2, hd, by simpa using h3⟩
/-- a new tuple is laid -/
theorem laidZ {xs : List V} {us : List Value} {h' : Heap} (I : Inv X pins σ H s) (k : ∀ b o, s.heap.get? b = some o → h'.get? b = some o) (r : Vals xs us) (z : xs.length ≤ sizeLine)
    (q : ∀ p o, H p = none → o.dict = none → Q (.ref p) (upd H p (.frz o (.tup xs)))) : EP X pins σ Q (.ref h'.objs.size) { s with heap := h'.push { cls := .type "tuple", data := .seq us.toArray } } := by
  have I1 : Inv X pins σ H { s with heap := h' } := I.kept (t' := s.toks) k
  have hf : H h'.objs.size = none := I1.hok.fresh (Nat.le_refl _)
  refine ⟨.ref h'.objs.size, _, I1.laid (t' := s.toks) (o := .frz { cls := .type "tuple", data := .seq us.toArray } (.tup xs)) (fun b u e => Heap.get?_push_of_some _ e) (Nat.le_refl _) ?_, rfl, q _ _ hf rfl⟩
  exact ⟨Heap.get?_push_size _ rfl, z, us, r, IsTup.new _ _⟩
end
def tTupZ (t : TA) : TE := fun σ H Q => t σ H fun xs H1 => xs.length ≤ sizeLine ∧ ∀ p o, H1 p = none → o.dict = none → Q (.ref p) (upd H1 p (.frz o (.tup xs)))
section
variable {X : Cx}
theorem pe_tupZ {es : List Expr} {t : TA} {x1} {pos : Pos} (h : PA X es t) : PE X (.Tuple es x1 pos) (tTupZ t) := by
  refine ⟨fun pins s σ H Q I hq => ?_⟩
  refine wpAny_Tuple_spliced (thn (h.run pos pins s σ H _ I hq) fun us s1 ⟨xs, H1, I1, r, z, q⟩ => ⟨by rw [← r.length]; exact z, ?_⟩)
  exact laidZ (s := s1) (h' := s1.heap) I1 (fun _ _ e => e) r z q
def rTupOf (K : PySem.W.Frag) : List V → Hp → VK → Prop := fun xs H Q => ∃ p ys, xs = [.ref p] ∧ ((SqL K H p ys ∧ ∀ l o, H l = none → o.dict = none → Q (.ref l) (upd H l (.frz o (.tup ys)))) ∨ (SqT K H p ys ∧ Q (.ref p) H))
theorem call_tuple_ofZ : CallR X (.type "tuple") (rTupOf X.K) := by
  intro pins s σ H xs us Q I r h
  obtain ⟨p, ys, rfl, h⟩ := h
  obtain ⟨u, rfl, rx⟩ := vals1 r
  cases rx
  rcases h with ⟨hq, q⟩ | ⟨hq, q⟩
  · obtain ⟨its, r', pl, hz⟩ := I.list hq
    have hlen := r'.length
    refine call_tuple_list pl.isList (fun h' kp => ?_) (by simp only [List.size_toArray] <;> omega)
    exact laidZ I kp r' hz q
  · exact call_tuple_of pins s σ H [.ref p] [.ref p] Q I (.cons rfl .nil) ⟨p, ys, rfl, .inr ⟨hq, q⟩⟩
/-- t + u -/
def rCatZ (K : PySem.W.Frag) : R2 := fun x y H Q => ∃ a b xs ys, x = .ref a ∧ y = .ref b ∧ SqT K H a xs ∧ SqT K H b ys ∧ xs.length + ys.length ≤ sizeLine ∧
  (xs = [] → Q (.ref b) H) ∧ (xs ≠ [] → ys = [] → Q (.ref a) H) ∧ (xs ≠ [] → ys ≠ [] → ∀ p o, H p = none → o.dict = none → Q (.ref p) (upd H p (.frz o (.tup (xs ++ ys)))))
theorem op_catZ : OpR X (binaryOp .Add) (rCatZ X.K) := by
  intro pins s σ H x y v u Q I rx ry h
  obtain ⟨a, b, xs, ys, rfl, rfl, ha, hb, hz, q0, q1, q2⟩ := h
  cases rx
  cases ry
  obtain ⟨its, r1, p1, _⟩ := I.tuple ha
  obtain ⟨its2, r2, p2, _⟩ := I.tuple hb
  by_cases hx : xs = []
  · subst hx
    cases r1
    exact cat_tup0 p1 p2 ⟨.ref b, H, I, rfl, q0 rfl⟩
  · refine HT.cat_tup p1 p2 (fun z => hx (r1.nil_iff.mp z)) (fun z => ⟨.ref a, H, I, rfl, q1 hx (r2.nil_iff.mp z)⟩) (fun z => ?_) (by rw [← r1.length, ← r2.length]; exact hz)
    exact laidZ (h' := s.heap) I (fun _ _ e => e) (r1.append r2) (by rw [List.length_append]; exact hz) (q2 hx fun w => z (r2.nil_iff.mpr w))
/-- t[lo:hi] -/
def rSlZ (K : PySem.W.Frag) : V → Option Int → Option Int → Hp → VK → Prop := fun x lo hi H Q => ∃ a xs, x = .ref a ∧ SqT K H a xs ∧
  (HT.sIx xs.length 0 lo = 0 ∧ HT.sIx xs.length xs.length hi = xs.length → Q (.ref a) H) ∧ (¬ (HT.sIx xs.length 0 lo = 0 ∧ HT.sIx xs.length xs.length hi = xs.length) → ∀ p o, H p = none → o.dict = none → Q (.ref p) (upd H p (.frz o (.tup (cutV xs lo hi)))))
theorem sl_tupZ : SlR X (rSlZ X.K) := by
  intro pins s σ H x v vl vu lo hi sl Q I rx hs pl pu h
  obtain ⟨a, xs, rfl, hx, q1, q2⟩ := h
  cases rx
  obtain ⟨its, r, ht, hz⟩ := I.tuple hx
  have hlen : its.toArray.size = xs.length := by rw [List.size_toArray]; exact r.length.symm
  refine ⟨"tuple", _, PyProof.Rows.slot_tuple_getitem.lookup, ht.typeIs, ?_⟩
  by_cases hw : HT.sIx xs.length 0 lo = 0 ∧ HT.sIx xs.length xs.length hi = xs.length
  · exact getItem_tuple_whole ht hs pl pu (by rw [hlen]; exact hw) ⟨.ref a, H, I, rfl, q1 hw⟩
  · refine HT.getItem_tuple_cut ht hs pl pu (by rw [hlen]; exact hw) ?_ (by rw [hlen]; exact hz)
    rw [hlen]
    exact laidZ (h' := s.heap) I (fun _ _ e => e) ((r.drop (HT.sIx xs.length 0 lo)).take (HT.sIx xs.length xs.length hi - HT.sIx xs.length 0 lo)) (Nat.le_trans (cutV_length xs lo hi) hz) (q2 hw)
end
end Lo
/-! Plain data as it lies in the abstract heap. -/
namespace Lo
open PySem PySem.Spec PyProof.Rows L2
theorem line_eq : sizeLine = LINE := sizeLine_eq
def sOk (x : Str) : Prop := x.length ≤ LINE ∧ PyData.strOk x = true
/-- a dict of the written part with its entries -/
def WrD (K : PySem.W.Frag) (w : World) (a : Addr) (ks : List (Key × V)) : Prop :=
  ∃ es n, K.lookup a = some ⟨.type "dict", none, .dict es n, #[]⟩ ∧ PySem.W.KeysLit w.params es.toList ∧ (a == sysModules) = false ∧
    Paired (fun (p : Key × V) (e : DictEntry) => keyIs p.1 e.key = true ∧ RelV p.2 e.val) ks es.toList ∧ (ks.map (·.1)).Nodup
def DcAt (H : Hp) (fz : Addr → Prop) (a : Addr) (ks : List (Key × V)) : Prop := fz a ∧ H a = some (.dK ks)
def LsAt (H : Hp) (fz : Addr → Prop) (a : Addr) (xs : List V) : Prop := fz a ∧ H a = some (.lst xs)
theorem LsAt.sq {K : PySem.W.Frag} {H : Hp} {fz : Addr → Prop} {a : Addr} {xs : List V} (h : LsAt H fz a xs) : SqL K H a xs := .inl (.inl h.2)
inductive KeyR : PyData → Key → Prop
  | str {x : Str} : sOk x → KeyR (.str x) (.inr x)
  | int (i : Int) : KeyR (.int i) (.inl i)
mutual
inductive Rp (K : PySem.W.Frag) (w : World) (H : Hp) (fz : Addr → Prop) : PyData → V → Prop
  | non : Rp K w H fz .none .non
  | bl (b : Bool) : Rp K w H fz (.bool b) (.bl b)
  | int (i : Int) : Rp K w H fz (.int i) (.int i)
  | str {x : Str} : sOk x → Rp K w H fz (.str x) (.str x)
  | tup {a : Addr} {xs : List V} {ds : List PyData} : TpAt K H a xs → xs.length ≤ LINE → RpA K w H fz ds xs → Rp K w H fz (.tuple ds) (.ref a)
  | lst {a : Addr} {xs : List V} {ds : List PyData} : LsAt H fz a xs → xs.length ≤ LINE → RpA K w H fz ds xs → Rp K w H fz (.list ds) (.ref a)
  | dic {a : Addr} {ks : List (Key × V)} {kvs : List (PyData × PyData)} : DcAt H fz a ks → ks.length ≤ LINE → RpK K w H fz kvs ks → Rp K w H fz (.dict kvs) (.ref a)
inductive RpA (K : PySem.W.Frag) (w : World) (H : Hp) (fz : Addr → Prop) : List PyData → List V → Prop
  | nil : RpA K w H fz [] []
  | cons {d : PyData} {ds : List PyData} {v : V} {vs : List V} : Rp K w H fz d v → RpA K w H fz ds vs → RpA K w H fz (d :: ds) (v :: vs)
inductive RpK (K : PySem.W.Frag) (w : World) (H : Hp) (fz : Addr → Prop) : List (PyData × PyData) → List (Key × V) → Prop
  | nil : RpK K w H fz [] []
  | cons {k : PyData} {key : Key} {d : PyData} {v : V} {ds : List (PyData × PyData)} {vs : List (Key × V)} : KeyR k key → Rp K w H fz d v → RpK K w H fz ds vs → RpK K w H fz ((k, d) :: ds) ((key, v) :: vs)
end
/-- what is known of the heap: the cells' addresses, the lists and dicts that stay as they are -/
structure Gm where
  mu : List Addr
  fz : Addr → Prop
  /-- cells that a loop walks: they stay as they are, too -/
  lk : Addr → Prop
def Cr (K : PySem.W.Frag) (w : World) (H : Hp) (fz : Addr → Prop) (a : Addr) : MO → Prop
  | .lst ds => ∃ xs, H a = some (.lst xs) ∧ xs.length ≤ LINE ∧ RpA K w H fz ds xs
  | .lk ds => ∃ xs, H a = some (.lst xs) ∧ xs.length ≤ LINE ∧ RpA K w H fz ds xs
  | .dic kvs => ∃ ks, H a = some (.dK ks) ∧ ks.length ≤ LINE ∧ RpK K w H fz kvs ks
structure Sr (K : PySem.W.Frag) (w : World) (g : Gm) (H : Hp) (m : Mem) : Prop where
  len : g.mu.length = m.length
  nd : g.mu.Nodup
  dis : ∀ a, g.fz a → a ∉ g.mu
  fzs : ∀ a, g.fz a → H a ≠ none
  cell : ∀ (n : Nat) (a : Addr) (o : MO), g.mu[n]? = some a → m[n]? = some o → Cr K w H g.fz a o
  lkd : ∀ (n : Nat) (a : Addr) (o : MO), g.mu[n]? = some a → m[n]? = some o → (g.lk a ↔ ∃ xs, o = .lk xs)
  lkm : ∀ a, g.lk a → a ∈ g.mu
/-- from one state to a later one: cells may have changed, all else that was there stands -/
structure Ext (g : Gm) (H : Hp) (g' : Gm) (H' : Hp) : Prop where
  mu : ∃ more, g'.mu = g.mu ++ more ∧ ∀ a ∈ more, H a = none
  fz : ∀ a, g.fz a → g'.fz a
  nfz : ∀ a, g'.fz a → g.fz a ∨ H a = none
  keep : ∀ a o, H a = some o → (a ∉ g.mu ∨ g.lk a) → H' a = some o
  lk : g'.lk = g.lk
/-- .. and no cell was made -/
def Ext0 (g : Gm) (H : Hp) (g' : Gm) (H' : Hp) : Prop := Ext g H g' H' ∧ g'.mu = g.mu
section
variable {K : PySem.W.Frag} {w : World} {g g1 g2 g' : Gm} {H H1 H2 H' : Hp} {m m1 m' : Mem} {fz fz' : Addr → Prop}
theorem RpA.length : ∀ {ds : List PyData} {vs : List V}, RpA K w H fz ds vs → ds.length = vs.length
  | _, _, .nil => rfl
  | _, _, .cons _ t => by rw [List.length_cons, List.length_cons, RpA.length t]
theorem RpK.length : ∀ {ds : List (PyData × PyData)} {vs : List (Key × V)}, RpK K w H fz ds vs → ds.length = vs.length
  | _, _, .nil => rfl
  | _, _, .cons _ _ t => by rw [List.length_cons, List.length_cons, RpK.length t]
/-- what data leans on stands -/
structure Keeps (K : PySem.W.Frag) (H : Hp) (fz : Addr → Prop) (H' : Hp) (fz' : Addr → Prop) : Prop where
  tup : ∀ a o xs, H a = some (.frz o (.tup xs)) → H' a = some (.frz o (.tup xs))
  lst : ∀ a xs, fz a → H a = some (.lst xs) → H' a = some (.lst xs)
  dic : ∀ a ks, fz a → H a = some (.dK ks) → H' a = some (.dK ks)
  fz : ∀ a, fz a → fz' a
mutual
theorem Rp.keep (k : Keeps K H fz H' fz') : ∀ {d : PyData} {v : V}, Rp K w H fz d v → Rp K w H' fz' d v
  | _, _, .non => .non
  | _, _, .bl b => .bl b
  | _, _, .int i => .int i
  | _, _, .str h => .str h
  | _, _, .tup h z r => .tup (h.elim (fun ⟨o, q, n⟩ => .inl ⟨o, k.tup _ _ _ q, n⟩) .inr) z (RpA.keep k r)
  | _, _, .lst h z r => .lst ⟨k.fz _ h.1, k.lst _ _ h.1 h.2⟩ z (RpA.keep k r)
  | _, _, .dic h z r => .dic ⟨k.fz _ h.1, k.dic _ _ h.1 h.2⟩ z (RpK.keep k r)
theorem RpA.keep (k : Keeps K H fz H' fz') : ∀ {d : List PyData} {v : List V}, RpA K w H fz d v → RpA K w H' fz' d v
  | _, _, .nil => .nil
  | _, _, .cons h t => .cons (Rp.keep k h) (RpA.keep k t)
theorem RpK.keep (k : Keeps K H fz H' fz') : ∀ {d : List (PyData × PyData)} {v : List (Key × V)}, RpK K w H fz d v → RpK K w H' fz' d v
  | _, _, .nil => .nil
  | _, _, .cons q h t => .cons q (Rp.keep k h) (RpK.keep k t)
end
/-- a cell holds a list or a dict -/
theorem Sr.at (s : Sr K w g H m) {a : Addr} (h : a ∈ g.mu) : (∃ xs, H a = some (.lst xs)) ∨ ∃ ks, H a = some (.dK ks) := by
  obtain ⟨n, hn⟩ := List.getElem?_of_mem h
  have hl : n < m.length := by rw [← s.len]; exact (List.getElem?_eq_some_iff.mp hn).1
  have c := s.cell n a m[n] hn (List.getElem?_eq_getElem hl)
  cases e : m[n] with
  | lst ds => rw [e] at c; obtain ⟨xs, q, _⟩ := c; exact .inl ⟨xs, q⟩
  | lk ds => rw [e] at c; obtain ⟨xs, q, _⟩ := c; exact .inl ⟨xs, q⟩
  | dic ds => rw [e] at c; obtain ⟨xs, q, _⟩ := c; exact .inr ⟨xs, q⟩
theorem Sr.isS (s : Sr K w g H m) {a : Addr} (h : a ∈ g.mu) : H a ≠ none := by
  rcases s.at h with ⟨_, e⟩ | ⟨_, e⟩ <;> rw [e] <;> exact fun z => nomatch z
theorem Sr.notTup (s : Sr K w g H m) {a : Addr} {o : Obj} {u : HO} (h : H a = some (.frz o u)) : a ∉ g.mu := fun hm => by
  rcases s.at hm with ⟨_, e⟩ | ⟨_, e⟩ <;> rw [e] at h <;> cases h
theorem Ext.keeps (s : Sr K w g H m) (x : Ext g H g' H') : Keeps K H g.fz H' g'.fz where
  tup := fun a o xs h => x.keep _ _ h (.inl (s.notTup h))
  lst := fun a xs f h => x.keep _ _ h (.inl (s.dis a f))
  dic := fun a xs f h => x.keep _ _ h (.inl (s.dis a f))
  fz := x.fz
theorem Ext.refl : Ext g H g H := ⟨⟨[], by simp, fun _ h => nomatch h⟩, fun _ h => h, fun _ h => .inl h, fun _ _ h _ => h, rfl⟩
theorem Ext.trans (s1 : Sr K w g1 H1 m1) (x : Ext g H g1 H1) (y : Ext g1 H1 g2 H2) : Ext g H g2 H2 := by
  obtain ⟨m1, e1, n1⟩ := x.mu
  obtain ⟨m2, e2, n2⟩ := y.mu
  have none_of : ∀ a, H1 a = none → H a = none := fun a h => by
    cases q : H a with
    | none => rfl
    | some o =>
      by_cases hm : a ∈ g.mu
      · exact absurd h (s1.isS (by rw [e1]; exact List.mem_append_left _ hm))
      · rw [x.keep a o q (.inl hm)] at h; cases h
  refine ⟨⟨m1 ++ m2, by rw [e2, e1, List.append_assoc], fun a h => ?_⟩, fun a h => y.fz a (x.fz a h), fun a h => ?_, fun a o h n => ?_, y.lk.trans x.lk⟩
  · rcases List.mem_append.mp h with h | h
    · exact n1 a h
    · exact none_of a (n2 a h)
  · rcases y.nfz a h with h | h
    · exact x.nfz a h
    · exact .inr (none_of a h)
  · refine y.keep a o (x.keep a o h n) (n.imp (fun n z => ?_) fun n => by rw [x.lk]; exact n)
    rw [e1] at z
    rcases List.mem_append.mp z with z | z
    · exact n z
    · rw [n1 a z] at h; cases h
theorem Ext.none_of (s1 : Sr K w g1 H1 m1) (x : Ext g H g1 H1) {a : Addr} (h : H1 a = none) : H a = none := by
  obtain ⟨m1, e1, n1⟩ := x.mu
  cases q : H a with
  | none => rfl
  | some o =>
    by_cases hm : a ∈ g.mu
    · exact absurd h (s1.isS (by rw [e1]; exact List.mem_append_left _ hm))
    · rw [x.keep a o q (.inl hm)] at h; cases h
theorem Ext0.refl : Ext0 g H g H := ⟨.refl, rfl⟩
theorem Ext0.trans (s1 : Sr K w g1 H1 m1) (x : Ext0 g H g1 H1) (y : Ext0 g1 H1 g2 H2) : Ext0 g H g2 H2 := ⟨x.1.trans s1 y.1, y.2.trans x.2⟩
/-- a new object at p -/
theorem Ext0.new {p : Addr} {o : HO} (hp : H p = none) : Ext0 g H g (upd H p o) :=
  ⟨⟨⟨[], by simp, fun _ h => nomatch h⟩, fun _ h => h, fun _ h => .inl h, fun a u h _ => by rw [upd_ne (ne_of_none h hp)]; exact h, rfl⟩, rfl⟩
theorem Cr.keep (k : Keeps K H fz H' fz') {a : Addr} {o : MO} (c : Cr K w H fz a o) (e : H' a = H a) : Cr K w H' fz' a o := by
  cases o with
  | lst ds => obtain ⟨xs, q, z, r⟩ := c; exact ⟨xs, e.trans q, z, r.keep k⟩
  | lk ds => obtain ⟨xs, q, z, r⟩ := c; exact ⟨xs, e.trans q, z, r.keep k⟩
  | dic ds => obtain ⟨xs, q, z, r⟩ := c; exact ⟨xs, e.trans q, z, r.keep k⟩
/-- the memory where no cell was touched -/
theorem Sr.keep (s : Sr K w g H m) (x : Ext0 g H g' H') (hc : ∀ a, a ∈ g.mu → H' a = H a) (hf : ∀ a, g'.fz a → g.fz a ∨ H' a ≠ none) : Sr K w g' H' m where
  len := by rw [x.2]; exact s.len
  nd := by rw [x.2]; exact s.nd
  dis := fun a h hm => by
    rw [x.2] at hm
    rcases x.1.nfz a h with h | h
    · exact s.dis a h hm
    · exact s.isS hm h
  fzs := fun a h => by
    rcases hf a h with h | h
    · cases q : H a with
      | none => exact absurd q (s.fzs a h)
      | some o => rw [x.1.keep a o q (.inl (s.dis a h))]; exact fun z => nomatch z
    · exact h
  cell := fun n a o h1 h2 => by
    rw [x.2] at h1
    exact (s.cell n a o h1 h2).keep (x.1.keeps s) (hc a (List.mem_of_getElem? h1))
  lkd := fun n a o h1 h2 => by
    rw [x.2] at h1
    rw [x.1.lk]
    exact s.lkd n a o h1 h2
  lkm := fun a h => by rw [x.2]; rw [x.1.lk] at h; exact s.lkm a h
theorem Sr.new {p : Addr} {o : HO} (s : Sr K w g H m) (hp : H p = none) : Sr K w g (upd H p o) m :=
  s.keep (Ext0.new hp) (fun a hm => upd_ne fun e => s.isS hm (by rw [e]; exact hp)) fun _ h => .inl h
/-! ### values -/
/-- what stands: sx, the caught exception's address and class -/
def Rv (K : PySem.W.Frag) (w : World) (sx : Option (Addr × Nat)) (g : Gm) (H : Hp) : W → V → Prop
  | .d x, v => Rp K w H g.fz x v
  | .ref n, v => ∃ a, g.mu[n]? = some a ∧ v = .ref a
  | .exc c, v => ∃ a, sx = some (a, c) ∧ v = .ref a
  | .ro xs, v => ∃ a o vs, v = .ref a ∧ H a = some (.frz o (.lst vs)) ∧ vs.length ≤ LINE ∧ RpA K w H g.fz xs vs
  | .rod kvs, v => ∃ a ks, v = .ref a ∧ WrD K w a ks ∧ ks.length ≤ LINE ∧ RpK K w H g.fz kvs ks
  | _, _ => False
/-- a value just made, or one that stands -/
def Rw (K : PySem.W.Frag) (w : World) (sx : Option (Addr × Nat)) (g : Gm) (H : Hp) : W → V → Prop
  | .new xs, v => ∃ a vs, v = .ref a ∧ H a = some (.lst vs) ∧ vs.length ≤ LINE ∧ RpA K w H g.fz xs vs ∧ ¬ g.fz a ∧ a ∉ g.mu
  | .newd kvs, v => ∃ a ks, v = .ref a ∧ H a = some (.dK ks) ∧ ks.length ≤ LINE ∧ RpK K w H g.fz kvs ks ∧ ¬ g.fz a ∧ a ∉ g.mu
  | x, v => Rv K w sx g H x v
/-- it was made behind H -/
def Fresh (H : Hp) : W → V → Prop
  | .new _, v => ∀ a, v = .ref a → H a = none
  | .newd _, v => ∀ a, v = .ref a → H a = none
  | _, _ => True
theorem Rv.rw {sx : Option (Addr × Nat)} {x : W} {v : V} (h : Rv K w sx g H x v) : Rw K w sx g H x v := by
  cases x <;> first | exact h | exact h.elim
theorem Rv.fresh {sx : Option (Addr × Nat)} {x : W} {v : V} (h : Rv K w sx g H x v) (H0 : Hp) : Fresh H0 x v := by
  cases x <;> first | trivial | exact h.elim
theorem Rv.keep {sx : Option (Addr × Nat)} {x : W} {v : V} (s : Sr K w g H m) (e : Ext g H g' H') (h : Rv K w sx g H x v) : Rv K w sx g' H' x v := by
  cases x with
  | d x => exact Rp.keep (e.keeps s) h
  | ref n =>
    obtain ⟨a, h1, h2⟩ := h
    obtain ⟨more, em, _⟩ := e.mu
    exact ⟨a, by rw [em, List.getElem?_append_left (List.getElem?_eq_some_iff.mp h1).1]; exact h1, h2⟩
  | exc c => exact h
  | ro xs =>
    obtain ⟨a, o, vs, h1, h2, z, r⟩ := h
    refine ⟨a, o, vs, h1, e.keep _ _ h2 (.inl fun hm => ?_), z, r.keep (e.keeps s)⟩
    rcases s.at hm with ⟨_, q⟩ | ⟨_, q⟩ <;> rw [h2] at q <;> cases q
  | rod kvs =>
    obtain ⟨a, ks, h1, h2, z, r⟩ := h
    exact ⟨a, ks, h1, h2, z, r.keep (e.keeps s)⟩
  | new _ => exact h.elim
  | newd _ => exact h.elim
  | it _ => exact h.elim
theorem Rw.keep {sx : Option (Addr × Nat)} {x : W} {v : V} (s : Sr K w g H m) (e : Ext g H g' H') (h : Rw K w sx g H x v) : Rw K w sx g' H' x v := by
  cases x with
  | new xs =>
    obtain ⟨a, vs, rfl, h1, z, r, f, n⟩ := h
    obtain ⟨more, em, hn⟩ := e.mu
    refine ⟨a, vs, rfl, e.keep _ _ h1 (.inl n), z, r.keep (e.keeps s), fun q => ?_, fun q => ?_⟩
    · rcases e.nfz a q with q | q
      · exact f q
      · rw [h1] at q; cases q
    · rw [em] at q
      rcases List.mem_append.mp q with q | q
      · exact n q
      · rw [hn a q] at h1; cases h1
  | newd xs =>
    obtain ⟨a, vs, rfl, h1, z, r, f, n⟩ := h
    obtain ⟨more, em, hn⟩ := e.mu
    refine ⟨a, vs, rfl, e.keep _ _ h1 (.inl n), z, r.keep (e.keeps s), fun q => ?_, fun q => ?_⟩
    · rcases e.nfz a q with q | q
      · exact f q
      · rw [h1] at q; cases q
    · rw [em] at q
      rcases List.mem_append.mp q with q | q
      · exact n q
      · rw [hn a q] at h1; cases h1
  | d x => exact Rv.keep (sx := sx) (x := .d x) s e h
  | ref n => exact Rv.keep (sx := sx) (x := .ref n) s e h
  | ro n => exact Rv.keep (sx := sx) (x := .ro n) s e h
  | rod n => exact Rv.keep (sx := sx) (x := .rod n) s e h
  | exc c => exact h
  | it _ => exact h.elim
theorem Fresh.back {x : W} {v : V} (s1 : Sr K w g1 H1 m1) (e : Ext g H g1 H1) (h : Fresh H1 x v) : Fresh H x v := by
  cases x with
  | new xs => exact fun a q => e.none_of s1 (h a q)
  | newd xs => exact fun a q => e.none_of s1 (h a q)
  | _ => trivial
/-- several values -/
inductive RwA (K : PySem.W.Frag) (w : World) (sx : Option (Addr × Nat)) (g : Gm) (H0 H : Hp) : List W → List V → Prop
  | nil : RwA K w sx g H0 H [] []
  | cons {x : W} {v : V} {xs : List W} {vs : List V} : Rw K w sx g H x v → Fresh H0 x v → RwA K w sx g H0 H xs vs → RwA K w sx g H0 H (x :: xs) (v :: vs)
/-- the names -/
structure Er (K : PySem.W.Frag) (w : World) (sx : Option (Addr × Nat)) (g : Gm) (H : Hp) (ρ : En) (σ : L2.St) : Prop where
  len : ρ.length = σ.length
  val : ∀ (i : Nat) (x : W), ρ[i]? = some (some x) → ∃ v, σ[i]? = some (some v) ∧ Rv K w sx g H x v
theorem Er.keep {sx : Option (Addr × Nat)} {ρ : En} {σ : L2.St} (s : Sr K w g H m) (e : Ext g H g' H') (h : Er K w sx g H ρ σ) : Er K w sx g' H' ρ σ :=
  ⟨h.len, fun i x q => let ⟨v, h1, h2⟩ := h.val i x q; ⟨v, h1, h2.keep s e⟩⟩
theorem Er.set {sx : Option (Addr × Nat)} {ρ : En} {σ : L2.St} {x : W} {v : V} (h : Er K w sx g H ρ σ) (i : Nat) (r : Rv K w sx g H x v) : Er K w sx g H (ρ.set i (some x)) (σ.set i (some v)) := by
  refine ⟨by rw [List.length_set, List.length_set, h.len], fun j y q => ?_⟩
  by_cases e : i = j
  · subst e
    by_cases hl : i < ρ.length
    · rw [List.getElem?_set_self hl] at q
      cases q
      exact ⟨v, by rw [List.getElem?_set_self (by rw [← h.len]; exact hl)], r⟩
    · rw [List.getElem?_eq_none (by rw [List.length_set]; omega)] at q; cases q
  · rw [List.getElem?_set_ne e] at q
    obtain ⟨u, h1, h2⟩ := h.val j y q
    exact ⟨u, by rw [List.getElem?_set_ne e]; exact h1, h2⟩
theorem Er.unset {sx : Option (Addr × Nat)} {ρ : En} {σ : L2.St} (h : Er K w sx g H ρ σ) (i : Nat) (u : Option V) : Er K w sx g H (ρ.set i none) (σ.set i u) := by
  refine ⟨by rw [List.length_set, List.length_set, h.len], fun j y q => ?_⟩
  by_cases e : i = j
  · subst e
    by_cases hl : i < ρ.length
    · rw [List.getElem?_set_self hl] at q; cases q
    · rw [List.getElem?_eq_none (by rw [List.length_set]; omega)] at q; cases q
  · rw [List.getElem?_set_ne e] at q
    obtain ⟨v, h1, h2⟩ := h.val j y q
    exact ⟨v, by rw [List.getElem?_set_ne e]; exact h1, h2⟩
theorem Er.wipe {sx : Option (Addr × Nat)} {ρ : En} {σ : L2.St} (h : Er K w sx g H ρ σ) : ∀ vs : List Nat, Er K w sx g H (wipeE ρ vs) (L2.wipe σ vs)
  | [] => h
  | v :: vs => (Er.wipe h vs).unset v none
/-! ### what a value is -/
variable {sx : Option (Addr × Nat)}
theorem Rp.noneI {v : V} (h : Rp K w H fz .none v) : v = .non := by cases h; rfl
theorem Rp.boolI {b : Bool} {v : V} (h : Rp K w H fz (.bool b) v) : v = .bl b := by cases h; rfl
theorem Rp.intI {i : Int} {v : V} (h : Rp K w H fz (.int i) v) : v = .int i := by cases h; rfl
theorem Rp.strI {x : Str} {v : V} (h : Rp K w H fz (.str x) v) : v = .str x ∧ sOk x := by cases h with | str h => exact ⟨rfl, h⟩
theorem Rp.tupI {ds : List PyData} {v : V} (h : Rp K w H fz (.tuple ds) v) : ∃ a vs, v = .ref a ∧ TpAt K H a vs ∧ vs.length ≤ LINE ∧ RpA K w H fz ds vs := by
  cases h with | tup h z r => exact ⟨_, _, rfl, h, z, r⟩
theorem Rp.lstI {ds : List PyData} {v : V} (h : Rp K w H fz (.list ds) v) : ∃ a vs, v = .ref a ∧ LsAt H fz a vs ∧ vs.length ≤ LINE ∧ RpA K w H fz ds vs := by
  cases h with | lst h z r => exact ⟨_, _, rfl, h, z, r⟩
theorem Rp.dicI {ds : List (PyData × PyData)} {v : V} (h : Rp K w H fz (.dict ds) v) : ∃ a ks, v = .ref a ∧ DcAt H fz a ks ∧ ks.length ≤ LINE ∧ RpK K w H fz ds ks := by
  cases h with | dic h z r => exact ⟨_, _, rfl, h, z, r⟩
theorem list_at {x : W} {v : V} {ds : List PyData} (s : Sr K w g H m) (r : Rw K w sx g H x v) (h : listOf m x = some ds) : ∃ a vs, v = .ref a ∧ H a = some (.lst vs) ∧ vs.length ≤ LINE ∧ RpA K w H g.fz ds vs := by
  cases x with
  | d x =>
    cases x with
    | list xs =>
      cases h
      obtain ⟨a, vs, rfl, q, z, r⟩ := Rp.lstI (show Rp K w H g.fz (.list _) v from r)
      exact ⟨a, vs, rfl, q.2, z, r⟩
    | _ => cases h
  | new xs =>
    cases h
    obtain ⟨a, vs, rfl, q, z, r, _⟩ := r
    exact ⟨a, vs, rfl, q, z, r⟩
  | ref n =>
    obtain ⟨a, h1, rfl⟩ := (show ∃ a, g.mu[n]? = some a ∧ v = .ref a from r)
    unfold listOf at h
    cases q : m[n]? with
    | none => simp only [q] at h; cases h
    | some o =>
      have c := s.cell n a o h1 q
      cases o with
      | lst xs => simp only [q] at h; cases h; obtain ⟨vs, q, z, r⟩ := c; exact ⟨a, vs, rfl, q, z, r⟩
      | lk xs => simp only [q] at h; cases h; obtain ⟨vs, q, z, r⟩ := c; exact ⟨a, vs, rfl, q, z, r⟩
      | dic xs => simp only [q] at h; cases h
  | _ => cases h
theorem listR_at {x : W} {v : V} {ds : List PyData} (s : Sr K w g H m) (r : Rw K w sx g H x v) (h : listR m x = some ds) : ∃ a vs, v = .ref a ∧ SqL K H a vs ∧ vs.length ≤ LINE ∧ RpA K w H g.fz ds vs := by
  have go : listOf m x = some ds → ∃ a vs, v = .ref a ∧ SqL K H a vs ∧ vs.length ≤ LINE ∧ RpA K w H g.fz ds vs := fun h => by
    obtain ⟨a, vs, e, q, z, r⟩ := list_at s r h
    exact ⟨a, vs, e, .inl (.inl q), z, r⟩
  cases x with
  | ro xs =>
    cases h
    obtain ⟨a, o, vs, e, q, z, r⟩ := r
    exact ⟨a, vs, e, .inl (.inr ⟨o, q⟩), z, r⟩
  | _ => exact go h
theorem dict_at {x : W} {v : V} {ds : List (PyData × PyData)} (s : Sr K w g H m) (r : Rw K w sx g H x v) (h : dictOf m x = some ds) :
    ∃ a ks, v = .ref a ∧ H a = some (.dK ks) ∧ ks.length ≤ LINE ∧ RpK K w H g.fz ds ks := by
  cases x with
  | d x =>
    cases x with
    | dict xs =>
      cases h
      obtain ⟨a, ks, rfl, q, z, r⟩ := Rp.dicI (show Rp K w H g.fz (.dict _) v from r)
      exact ⟨a, ks, rfl, q.2, z, r⟩
    | _ => cases h
  | newd xs =>
    cases h
    obtain ⟨a, ks, rfl, q, z, r, _⟩ := r
    exact ⟨a, ks, rfl, q, z, r⟩
  | ref n =>
    obtain ⟨a, h1, rfl⟩ := (show ∃ a, g.mu[n]? = some a ∧ v = .ref a from r)
    unfold dictOf at h
    cases q : m[n]? with
    | none => simp only [q] at h; cases h
    | some o =>
      have c := s.cell n a o h1 q
      cases o with
      | dic xs => simp only [q] at h; cases h; obtain ⟨ks, q, z, r⟩ := c; exact ⟨a, ks, rfl, q, z, r⟩
      | lk xs => simp only [q] at h; cases h
      | lst xs => simp only [q] at h; cases h
  | _ => cases h
theorem dictR_at {x : W} {v : V} {ds : List (PyData × PyData)} (s : Sr K w g H m) (r : Rw K w sx g H x v) (h : dictR m x = some ds) :
    ∃ a ks, v = .ref a ∧ (H a = some (.dK ks) ∨ WrD K w a ks) ∧ ks.length ≤ LINE ∧ RpK K w H g.fz ds ks := by
  have go : dictOf m x = some ds → ∃ a ks, v = .ref a ∧ (H a = some (.dK ks) ∨ WrD K w a ks) ∧ ks.length ≤ LINE ∧ RpK K w H g.fz ds ks := fun h => by
    obtain ⟨a, ks, e, q, z, r⟩ := dict_at s r h
    exact ⟨a, ks, e, .inl q, z, r⟩
  cases x with
  | rod kvs =>
    cases h
    obtain ⟨a, ks, e, q, z, r⟩ := r
    exact ⟨a, ks, e, .inr q, z, r⟩
  | _ => exact go h
theorem RpA.get : ∀ {ds : List PyData} {vs : List V} {i : Nat} {d : PyData}, RpA K w H fz ds vs → ds[i]? = some d → ∃ v, vs[i]? = some v ∧ Rp K w H fz d v
  | _, _, _, _, .nil, e => by simp at e
  | _, _, 0, _, .cons r _, e => by simp at e; subst e; exact ⟨_, rfl, r⟩
  | _, _, i + 1, d, .cons _ t, e => by
    obtain ⟨u, h1, h2⟩ := RpA.get (i := i) (d := d) t (by simpa using e)
    exact ⟨u, by simpa using h1, h2⟩
theorem RpA.append : ∀ {ds es : List PyData} {vs us : List V}, RpA K w H fz ds vs → RpA K w H fz es us → RpA K w H fz (ds ++ es) (vs ++ us)
  | _, _, _, _, .nil, s => s
  | _, _, _, _, .cons r t, s => .cons r (RpA.append t s)
theorem RpA.take : ∀ {ds : List PyData} {vs : List V} (n : Nat), RpA K w H fz ds vs → RpA K w H fz (ds.take n) (vs.take n)
  | _, _, 0, _ => .nil
  | _, _, _ + 1, .nil => .nil
  | _, _, n + 1, .cons r t => .cons r (RpA.take n t)
theorem RpA.drop : ∀ {ds : List PyData} {vs : List V} (n : Nat), RpA K w H fz ds vs → RpA K w H fz (ds.drop n) (vs.drop n)
  | _, _, 0, r => r
  | _, _, _ + 1, .nil => .nil
  | _, _, n + 1, .cons _ t => RpA.drop n t
theorem RpA.set {d : PyData} {v : V} (r : Rp K w H fz d v) : ∀ {ds : List PyData} {vs : List V} (i : Nat), RpA K w H fz ds vs → RpA K w H fz (ds.set i d) (vs.set i v)
  | _, _, _, .nil => .nil
  | _, _, 0, .cons _ t => .cons r t
  | _, _, i + 1, .cons q t => .cons q (RpA.set r i t)
theorem RpA.reverse : ∀ {ds : List PyData} {vs : List V}, RpA K w H fz ds vs → RpA K w H fz ds.reverse vs.reverse
  | _, _, .nil => .nil
  | _, _, .cons r t => by rw [List.reverse_cons, List.reverse_cons]; exact RpA.append (RpA.reverse t) (.cons r .nil)
theorem sOk.app {a b : Str} (ha : sOk a) (hb : sOk b) (hz : a.length + b.length ≤ LINE) : sOk (a ++ b) := by
  refine ⟨?_, ?_⟩
  · show (a.cps ++ b.cps).size ≤ LINE
    rw [Array.size_append]; exact hz
  · show (a.cps ++ b.cps).all _ = true
    rw [Array.all_append, Bool.and_eq_true]
    exact ⟨ha.2, hb.2⟩
theorem sOk.of_mem {a : Str} {l : List Nat} (ha : sOk a) (hl : l.length ≤ LINE) (h : ∀ c ∈ l, c ∈ a.cps.toList) : sOk ⟨l.toArray⟩ := by
  refine ⟨by show l.toArray.size ≤ LINE; rw [List.size_toArray]; exact hl, ?_⟩
  show l.toArray.all _ = true
  rw [List.all_toArray, List.all_eq_true]
  intro c hc
  have q := ha.2
  unfold PyData.strOk at q
  rw [← Array.all_toList, List.all_eq_true] at q
  exact q c (h c hc)
end
end Lo
/-! Readings of the small language. -/
namespace Lo
open PySem PySem.Spec PyProof.Rows L2
/-- where we stand: the context, the caught exception, the classes, the wish about exceptions -/
structure Cy where
  X : Cx
  sx : Option (Addr × Nat)
  cx : Nat → Value
  Wx : WX
variable {Y : Cy}
/-- what is wanted of a result, seen from (g, H) -/
def Pst {α β : Type} (Y : Cy) (rel : Gm → Hp → Hp → α → β → Prop) (g : Gm) (H : Hp) (σ : L2.St) (r : R α) (Q : β → Hp → Prop) : Prop := match r with
  | .ok a m' => ∀ b H' g', Sr Y.X.K Y.X.w g' H' m' → Ext0 g H g' H' → rel g' H H' a b → Q b H'
  | .exc c m' => ∀ (_ : Unit) H' g', Sr Y.X.K Y.X.w g' H' m' → Ext0 g H g' H' → Y.Wx (Y.cx c) none σ H'
  | .bad => False
def relW (Y : Cy) (g' : Gm) (H H' : Hp) (x : W) (v : V) : Prop := Rw Y.X.K Y.X.w Y.sx g' H' x v ∧ Fresh H x v
def relA (Y : Cy) (g' : Gm) (H H' : Hp) (x : List W) (v : List V) : Prop := RwA Y.X.K Y.X.w Y.sx g' H H' x v
def relB (_ : Gm) (_ _ : Hp) (x y : Bool) : Prop := x = y
def rd {α β : Type} (Y : Cy) (rel : Gm → Hp → Hp → α → β → Prop) (f : En → Mem → R α) (σ : L2.St) (H : Hp) (Q : β → Hp → Prop) : Prop :=
  ∃ ρ m g, Sr Y.X.K Y.X.w g H m ∧ Er Y.X.K Y.X.w Y.sx g H ρ σ ∧ Pst Y rel g H σ (f ρ m) Q
abbrev rdE (Y : Cy) (f : En → Mem → R W) : TE := rd Y (relW Y) f
abbrev rdA (Y : Cy) (f : En → Mem → R (List W)) : TA := rd Y (relA Y) f
abbrev rdT (Y : Cy) (f : En → Mem → R Bool) : TT := rd Y relB f
theorem _root_.L2.PE.imp {X : Cx} {e : Expr} {t t' : TE} (h : PE X e t) (i : ∀ σ H Q, t' σ H Q → t σ H Q) : PE X e t' := ⟨fun pins s σ H Q I q => h.run pins s σ H Q I (i σ H Q q)⟩
theorem _root_.L2.PT.imp {X : Cx} {e : Expr} {t t' : TT} (h : PT X e t) (i : ∀ σ H Q, t' σ H Q → t σ H Q) : PT X e t' := ⟨fun pins s σ H Q I q => h.run pins s σ H Q I (i σ H Q q)⟩
theorem _root_.L2.PW.imp {X : Cx} {e : Expr} {t t' : TT} (h : PW X e t) (i : ∀ σ H Q, t' σ H Q → t σ H Q) : PW X e t' := ⟨fun wh pins s σ H Q I q => h.run wh pins s σ H Q I (i σ H Q q)⟩
theorem _root_.L2.PA.imp {X : Cx} {e : List Expr} {t t' : TA} (h : PA X e t) (i : ∀ σ H Q, t' σ H Q → t σ H Q) : PA X e t' := ⟨fun p pins s σ H Q I q => h.run p pins s σ H Q I (i σ H Q q)⟩
theorem _root_.L2.PS.imp {X : Cx} {e : Stmt} {t t' : TS} (h : PS X e t) (i : ∀ D σ H, t' D σ H → t D σ H) : PS X e t' := ⟨fun pins s σ H D I q => h.run pins s σ H D I (i D σ H q)⟩
theorem _root_.L2.PSs.imp {X : Cx} {e : List Stmt} {t t' : TS} (h : PSs X e t) (i : ∀ D σ H, t' D σ H → t D σ H) : PSs X e t' := ⟨fun pins s σ H D I q => h.run pins s σ H D I (i D σ H q)⟩
section
variable {g g1 : Gm} {H H1 : Hp} {m m1 : Mem} {ρ : En} {σ : L2.St}
theorem relW.back {x : W} {v : V} {g' : Gm} {H' : Hp} (s1 : Sr Y.X.K Y.X.w g1 H1 m1) (e : Ext0 g H g1 H1) (h : relW Y g' H1 H' x v) : relW Y g' H H' x v := ⟨h.1, h.2.back s1 e.1⟩
theorem RwA.back {K : PySem.W.Frag} {w : World} {sx : Option (Addr × Nat)} {g' : Gm} {H' : Hp} (s1 : Sr K w g1 H1 m1) (e : Ext g H g1 H1) : ∀ {xs : List W} {vs : List V}, RwA K w sx g' H1 H' xs vs → RwA K w sx g' H H' xs vs
  | _, _, .nil => .nil
  | _, _, .cons a b c => .cons a (b.back s1 e) (RwA.back s1 e c)
/-- seen from a later state -/
theorem Pst.from {α β : Type} {rel : Gm → Hp → Hp → α → β → Prop} {r : R α} {Q : β → Hp → Prop} (hr : ∀ g' H' a b, rel g' H1 H' a b → rel g' H H' a b) (s1 : Sr Y.X.K Y.X.w g1 H1 m1) (e : Ext0 g H g1 H1) (h : Pst Y rel g H σ r Q) : Pst Y rel g1 H1 σ r Q := by
  cases r with
  | ok a m' => exact fun b H' g' s' e' q => h b H' g' s' (e.trans s1 e') (hr _ _ _ _ q)
  | exc c m' => exact fun d H' g' s' e' => h d H' g' s' (e.trans s1 e')
  | bad => exact h
theorem Pst.fromW {r : R W} {Q : V → Hp → Prop} (s1 : Sr Y.X.K Y.X.w g1 H1 m1) (e : Ext0 g H g1 H1) (h : Pst Y (relW Y) g H σ r Q) : Pst Y (relW Y) g1 H1 σ r Q :=
  h.from (fun _ _ _ _ q => q.back s1 e) s1 e
theorem Pst.fromA {r : R (List W)} {Q : List V → Hp → Prop} (s1 : Sr Y.X.K Y.X.w g1 H1 m1) (e : Ext0 g H g1 H1) (h : Pst Y (relA Y) g H σ r Q) : Pst Y (relA Y) g1 H1 σ r Q :=
  h.from (fun _ _ _ _ q => RwA.back s1 e.1 q) s1 e
theorem Pst.fromB {r : R Bool} {Q : Bool → Hp → Prop} (s1 : Sr Y.X.K Y.X.w g1 H1 m1) (e : Ext0 g H g1 H1) (h : Pst Y relB g H σ r Q) : Pst Y relB g1 H1 σ r Q :=
  h.from (fun _ _ _ _ (q : _ = _) => q) s1 e
theorem Pst.imp {α β : Type} {rel : Gm → Hp → Hp → α → β → Prop} {r : R α} {Q Q' : β → Hp → Prop} (h : Pst Y rel g H σ r Q) (hq : ∀ b H', Q b H' → Q' b H') : Pst Y rel g H σ r Q' := by
  cases r with
  | ok a m' => exact fun b H' g' s' e' q => hq _ _ (h b H' g' s' e' q)
  | exc c m' => exact h
  | bad => exact h
/-- the end of a step: the value is here -/
theorem Pst.done {x : W} {v : V} {Q : V → Hp → Prop} {g0 : Gm} {H0 : Hp} (h : Pst Y (relW Y) g0 H0 σ (.ok x m1) Q) (s1 : Sr Y.X.K Y.X.w g1 H1 m1) (e : Ext0 g0 H0 g1 H1) (r : Rw Y.X.K Y.X.w Y.sx g1 H1 x v) (f : Fresh H0 x v) : Q v H1 :=
  h v H1 g1 s1 e ⟨r, f⟩
theorem Pst.doneV {x : W} {v : V} {Q : V → Hp → Prop} {g0 : Gm} {H0 : Hp} (h : Pst Y (relW Y) g0 H0 σ (.ok x m1) Q) (s1 : Sr Y.X.K Y.X.w g1 H1 m1) (e : Ext0 g0 H0 g1 H1) (r : Rv Y.X.K Y.X.w Y.sx g1 H1 x v) : Q v H1 :=
  h v H1 g1 s1 e ⟨r.rw, r.fresh _⟩
/-- THE STEP: f first, then what follows -/
theorem rd_step {α β γ δ : Type} {rel : Gm → Hp → Hp → α → β → Prop} {rel' : Gm → Hp → Hp → γ → δ → Prop} {f : En → Mem → R α} {k : α → Mem → R γ} {Q : δ → Hp → Prop} {Q' : β → Hp → Prop} {g0 : Gm} {H0 : Hp}
    (s : Sr Y.X.K Y.X.w g H m) (e : Er Y.X.K Y.X.w Y.sx g H ρ σ) (x0 : Ext0 g0 H0 g H) (h : Pst Y rel' g0 H0 σ ((f ρ m).bind k) Q)
    (c : ∀ a m1 b H1 g1, Sr Y.X.K Y.X.w g1 H1 m1 → Ext0 g H g1 H1 → rel g1 H H1 a b → Er Y.X.K Y.X.w Y.sx g1 H1 ρ σ → Pst Y rel' g0 H0 σ (k a m1) Q → Q' b H1) :
    rd Y rel f σ H Q' := by
  refine ⟨ρ, m, g, s, e, ?_⟩
  cases q : f ρ m with
  | ok a m1 =>
    rw [q] at h
    exact fun b H1 g1 s1 e1 r => c a m1 b H1 g1 s1 e1 r (e.keep s e1.1) h
  | exc n m1 =>
    rw [q] at h
    exact fun d H1 g1 s1 e1 => h d H1 g1 s1 (x0.trans s e1)
  | bad =>
    rw [q] at h
    exact h
end
/-! ### constants and names -/
theorem snd_int {i j pos} : PE Y.X (.Constant (.int i) j pos) (rdE Y fun _ m => .ok (.d (.int i)) m) :=
  pe_int.imp fun σ H Q ⟨_, _, _, s, _, h⟩ => h.doneV s Ext0.refl (Rp.int i)
theorem snd_bl {b j pos} : PE Y.X (.Constant (.bool b) j pos) (rdE Y fun _ m => .ok (.d (.bool b)) m) :=
  pe_bl.imp fun σ H Q ⟨_, _, _, s, _, h⟩ => h.doneV s Ext0.refl (Rp.bl b)
theorem snd_non {j pos} : PE Y.X (.Constant .none j pos) (rdE Y fun _ m => .ok (.d .none) m) :=
  pe_non.imp fun σ H Q ⟨_, _, _, s, _, h⟩ => h.doneV s Ext0.refl Rp.non
theorem snd_str {x j pos} (hx : sOk x) : PE Y.X (.Constant (.str x) j pos) (rdE Y fun _ m => .ok (.d (.str x)) m) :=
  pe_str.imp fun σ H Q ⟨_, _, _, s, _, h⟩ => h.doneV s Ext0.refl (Rp.str hx)
theorem snd_var {i : Nat} {x : Str} {pos : Pos} (F : Cs) (hN : Y.X.N[i]? = some x) (hv : Vis Y.X.env.scope x) (hd : (x == ("__debug__" : Str)) = false) (hcd : (x == ("__classdict__" : Str)) = false) :
    PE Y.X (.Name x pos) (rdE Y (ev F (.v i))) :=
  (pe_var hN hv hd hcd).imp fun σ H Q ⟨ρ, m, g, s, e, h⟩ => by
    simp only [ev] at h
    cases q : ρ[i]? with
    | none => rw [q] at h; exact h.elim
    | some o =>
      cases o with
      | none => rw [q] at h; exact h.elim
      | some x =>
        rw [q] at h
        obtain ⟨v, h1, h2⟩ := e.val i x q
        exact ⟨v, h1, h.doneV s Ext0.refl h2⟩
end Lo
/-! Operators of the small language. -/
namespace Lo
open PySem PySem.Spec PyProof.Rows L2
variable {Y : Cy}
/-- what an operator's result asks, by the values -/
def rOp (Y : Cy) (f : W → W → Mem → Option W) : R2 := fun v u H Q =>
  ∃ g m g0 H0 x y z σ, Sr Y.X.K Y.X.w g H m ∧ Ext0 g0 H0 g H ∧ Rw Y.X.K Y.X.w Y.sx g H x v ∧ Rw Y.X.K Y.X.w Y.sx g H y u ∧ f x y m = some z ∧ Pst Y (relW Y) g0 H0 σ (.ok z m) Q
section
variable {g g0 : Gm} {H H0 : Hp} {m : Mem} {σ : L2.St} {Q : V → Hp → Prop}
/-- a new list -/
theorem Pst.newL {ds : List PyData} {vs : List V} (h : Pst Y (relW Y) g0 H0 σ (.ok (.new ds) m) Q) (s : Sr Y.X.K Y.X.w g H m) (x : Ext0 g0 H0 g H) (r : RpA Y.X.K Y.X.w H g.fz ds vs) (z : vs.length ≤ LINE) (p : Addr) (hp : H p = none) :
    Q (.ref p) (upd H p (.lst vs)) :=
  h.done (s.new hp) (x.trans s (Ext0.new hp)) ⟨p, vs, rfl, upd_same, z, r.keep ((Ext0.new (g := g) hp).1.keeps s), fun f => s.fzs p f hp, fun q => s.isS q hp⟩ fun a e => by
    cases e; exact x.1.none_of s hp
theorem Pst.newT {ds : List PyData} {vs : List V} (h : Pst Y (relW Y) g0 H0 σ (.ok (.d (.tuple ds)) m) Q) (s : Sr Y.X.K Y.X.w g H m) (x : Ext0 g0 H0 g H) (r : RpA Y.X.K Y.X.w H g.fz ds vs) (z : vs.length ≤ LINE) (p : Addr) (o : Obj) (hp : H p = none) (ho : o.dict = none) :
    Q (.ref p) (upd H p (.frz o (.tup vs))) :=
  h.doneV (s.new hp) (x.trans s (Ext0.new hp)) (Rp.tup (.inl ⟨o, upd_same, ho⟩) z (r.keep ((Ext0.new (g := g) hp).1.keeps s)))
theorem Pst.sameT {ds : List PyData} {v : V} (h : Pst Y (relW Y) g0 H0 σ (.ok (.d (.tuple ds)) m) Q) (s : Sr Y.X.K Y.X.w g H m) (x : Ext0 g0 H0 g H) (r : Rp Y.X.K Y.X.w H g.fz (.tuple ds) v) : Q v H := h.doneV s x r
theorem Pst.intD {i : Int} (h : Pst Y (relW Y) g0 H0 σ (.ok (.d (.int i)) m) Q) (s : Sr Y.X.K Y.X.w g H m) (x : Ext0 g0 H0 g H) : Q (.int i) H := h.doneV s x (Rp.int i)
theorem Pst.blD {i : Bool} (h : Pst Y (relW Y) g0 H0 σ (.ok (.d (.bool i)) m) Q) (s : Sr Y.X.K Y.X.w g H m) (x : Ext0 g0 H0 g H) : Q (.bl i) H := h.doneV s x (Rp.bl i)
theorem Pst.nonD (h : Pst Y (relW Y) g0 H0 σ (.ok (.d .none) m) Q) (s : Sr Y.X.K Y.X.w g H m) (x : Ext0 g0 H0 g H) : Q .non H := h.doneV s x Rp.non
theorem Pst.strD {i : Str} (h : Pst Y (relW Y) g0 H0 σ (.ok (.d (.str i)) m) Q) (s : Sr Y.X.K Y.X.w g H m) (x : Ext0 g0 H0 g H) (k : sOk i) : Q (.str i) H := h.doneV s x (Rp.str k)
end
theorem small64_mul {i j : Int} (h : (small64 i || small64 j) = true) : CMul i j := by
  rw [Bool.or_eq_true] at h
  exact h.imp of_decide_eq_true of_decide_eq_true
theorem addOk : OpR Y.X (binaryOp .Add) (rOp Y (binW .Add)) := by
  intro pins s σ H v u vv uu Q I rv ru h
  obtain ⟨g, m, g0, H0, x, y, z, σ', S, E0, rx, ry, e, q⟩ := h
  have lists : (match listOf m x, listOf m y with
      | some a, some b => if a.length + b.length ≤ LINE then some (W.new (a ++ b)) else none
      | _, _ => none) = some z → wpAny (model Y.X.prog Y.X.w) Y.X.A (binaryOp .Add vv uu) (EP Y.X pins σ Q) Y.X.xe s := by
    intro e
    cases hx : listOf m x with
    | none => simp only [hx] at e; cases e
    | some a =>
      cases hy : listOf m y with
      | none => simp only [hx, hy] at e; cases e
      | some b =>
        simp only [hx, hy] at e
        split at e
        · rename_i hz
          cases e
          obtain ⟨p, vs, rfl, hp, z1, r1⟩ := list_at S rx hx
          obtain ⟨p2, us, rfl, hp2, z2, r2⟩ := list_at S ry hy
          have l1 := r1.length
          have l2 := r2.length
          refine op_cat pins s σ H _ _ vv uu Q I rv ru ⟨p, p2, vs, us, rfl, rfl, hp, hp2, by rw [line_eq, ← l1, ← l2]; exact hz, ?_⟩
          exact fun p' hp' => q.newL S E0 (r1.append r2) (by rw [List.length_append, ← l1, ← l2]; exact hz) p' hp'
        · cases e
  cases x with
  | d x =>
    cases y with
    | d y =>
      cases x with
      | int i =>
        cases y with
        | int j =>
          have e : some (W.d (.int (i + j))) = some z := e
          cases e
          obtain rfl := Rp.intI (show Rp _ _ _ _ (.int i) v from rx)
          obtain rfl := Rp.intI (show Rp _ _ _ _ (.int j) u from ry)
          exact op_add pins s σ H _ _ vv uu Q I rv ru ⟨i, j, rfl, rfl, q.intD S E0⟩
        | _ => exact lists e
      | str i =>
        cases y with
        | str j =>
          have e : (if i.length + j.length ≤ LINE then some (W.d (.str (i ++ j))) else none) = some z := e
          split at e
          · rename_i hz
            cases e
            obtain ⟨rfl, k1⟩ := Rp.strI (show Rp _ _ _ _ (.str i) v from rx)
            obtain ⟨rfl, k2⟩ := Rp.strI (show Rp _ _ _ _ (.str j) u from ry)
            exact op_add_str pins s σ H _ _ vv uu Q I rv ru ⟨i, j, rfl, rfl, by rw [line_eq]; exact hz, q.strD S E0 (k1.app k2 hz)⟩
          · cases e
        | _ => exact lists e
      | tuple i =>
        cases y with
        | tuple j =>
          have e : (if i.length + j.length ≤ LINE then some (W.d (.tuple (i ++ j))) else none) = some z := e
          split at e
          · rename_i hz
            cases e
            have rx' : Rp Y.X.K Y.X.w H g.fz (.tuple i) v := rx
            have ry' : Rp Y.X.K Y.X.w H g.fz (.tuple j) u := ry
            obtain ⟨a, vs, rfl, ha, z1, r1⟩ := Rp.tupI rx'
            obtain ⟨b, us, rfl, hb, z2, r2⟩ := Rp.tupI ry'
            have l1 := r1.length
            have l2 := r2.length
            refine op_catZ pins s σ H _ _ vv uu Q I rv ru ⟨a, b, vs, us, rfl, rfl, ha.sq, hb.sq, by rw [line_eq, ← l1, ← l2]; exact hz, fun k => ?_, fun _ k => ?_, fun _ _ p o hp ho => q.newT S E0 (r1.append r2) (by rw [List.length_append, ← l1, ← l2]; exact hz) p o hp ho⟩
            · subst k
              cases r1
              exact q.sameT S E0 ry'
            · subst k
              cases r2
              rw [List.append_nil] at q
              exact q.sameT S E0 rx'
          · cases e
        | _ => exact lists e
      | _ => exact lists e
    | _ => cases x <;> exact lists e
  | _ => exact lists e
theorem opIntI {op : Operator} {C : Int → Int → Prop} {f : Int → Int → Int} (ho : OpR Y.X (binaryOp op) (rI C fun i j => .int (f i j)))
    (hf : ∀ x y m z, binW op x y m = some z → ∃ i j, x = .d (.int i) ∧ y = .d (.int j) ∧ C i j ∧ z = .d (.int (f i j))) : OpR Y.X (binaryOp op) (rOp Y (binW op)) := by
  intro pins s σ H v u vv uu Q I rv ru h
  obtain ⟨g, m, g0, H0, x, y, z, σ', S, E0, rx, ry, e, q⟩ := h
  obtain ⟨i, j, rfl, rfl, c, rfl⟩ := hf x y m z e
  obtain rfl := Rp.intI (show Rp _ _ _ _ (.int i) v from rx)
  obtain rfl := Rp.intI (show Rp _ _ _ _ (.int j) u from ry)
  exact ho pins s σ H _ _ vv uu Q I rv ru ⟨i, j, rfl, rfl, c, q.intD S E0⟩
theorem op_subC {X : Cx} : OpR X (binaryOp .Sub) (rI (fun _ _ => True) fun i j => .int (i - j)) := fun pins s σ H x y v u Q I r1 r2 ⟨i, j, e1, e2, _, q⟩ => op_sub pins s σ H x y v u Q I r1 r2 ⟨i, j, e1, e2, q⟩
theorem binW_ints {op : Operator} {x y : W} {m : Mem} {z : W} (h : binW op x y m = some z) (ho : op ≠ .Add) : ∃ i j, x = .d (.int i) ∧ y = .d (.int j) := by
  cases op <;> first
    | exact absurd rfl ho
    | (unfold binW at h; dsimp only at h; cases h; done)
    | (unfold binW at h; dsimp only at h; split at h <;> first | exact ⟨_, _, rfl, rfl⟩ | cases h)
theorem subOk : OpR Y.X (binaryOp .Sub) (rOp Y (binW .Sub)) := opIntI op_subC fun x y m z h => by
  obtain ⟨i, j, rfl, rfl⟩ := binW_ints h (by decide)
  cases h
  exact ⟨i, j, rfl, rfl, trivial, rfl⟩
theorem mulOk : OpR Y.X (binaryOp .Mult) (rOp Y (binW .Mult)) := opIntI op_mul fun x y m z h => by
  obtain ⟨i, j, rfl, rfl⟩ := binW_ints h (by decide)
  have h : (if (small64 i || small64 j) = true then some (W.d (.int (i * j))) else none) = some z := h
  split at h
  · rename_i hz; cases h; exact ⟨i, j, rfl, rfl, small64_mul hz, rfl⟩
  · cases h
theorem divOk : OpR Y.X (binaryOp .FloorDiv) (rOp Y (binW .FloorDiv)) := opIntI op_fdiv fun x y m z h => by
  obtain ⟨i, j, rfl, rfl⟩ := binW_ints h (by decide)
  have h : (if 0 < j ∧ j < 1073741824 then some (W.d (.int (i / j))) else none) = some z := h
  split at h
  · rename_i hz; cases h; exact ⟨i, j, rfl, rfl, hz, rfl⟩
  · cases h
theorem modOk : OpR Y.X (binaryOp .Mod) (rOp Y (binW .Mod)) := opIntI op_mod fun x y m z h => by
  obtain ⟨i, j, rfl, rfl⟩ := binW_ints h (by decide)
  have h : (if 0 < j then some (W.d (.int (i % j))) else none) = some z := h
  split at h
  · rename_i hz; cases h; exact ⟨i, j, rfl, rfl, hz, rfl⟩
  · cases h
theorem powOk : OpR Y.X (binaryOp .Pow) (rOp Y (binW .Pow)) := opIntI op_pow fun x y m z h => by
  obtain ⟨i, j, rfl, rfl⟩ := binW_ints h (by decide)
  have h : (if 0 ≤ j ∧ j ≤ 1000000 ∧ i.natAbs < 2 ^ 64 then some (W.d (.int (i ^ j.toNat))) else none) = some z := h
  split at h
  · rename_i hz; cases h; exact ⟨i, j, rfl, rfl, hz, rfl⟩
  · cases h
/-- every operator that there is -/
theorem binOk (op : Operator) : OpR Y.X (binaryOp op) (rOp Y (binW op)) := by
  have no : (∀ x y m z, binW op x y m ≠ some z) → OpR Y.X (binaryOp op) (rOp Y (binW op)) := fun n pins s σ H v u vv uu Q I rv ru ⟨_, m, _, _, x, y, z, _, _, _, _, _, e, _⟩ => absurd e (n x y m z)
  cases op with
  | Add => exact addOk
  | Sub => exact subOk
  | Mult => exact mulOk
  | FloorDiv => exact divOk
  | Mod => exact modOk
  | Pow => exact powOk
  | _ => exact no fun x y m z h => by unfold binW at h; cases h
/-- the two sides, then the operator -/
theorem rd_op {fa fb : En → Mem → R W} {f : W → W → Mem → Option W} {σ : L2.St} {H : Hp} {Q : VK} (h : rdE Y (fun ρ m => (fa ρ m).bind fun x m => (fb ρ m).bind fun y m => .of m (f x y m)) σ H Q) : tOp (rOp Y f) (rdE Y fa) (rdE Y fb) σ H Q := by
  obtain ⟨ρ, m, g, s, e, h⟩ := h
  refine rd_step s e Ext0.refl h fun x m1 v H1 g1 s1 e1 rx E1 h1 => ?_
  refine rd_step s1 E1 e1 h1 fun y m2 u H2 g2 s2 e2 ry E2 h2 => ?_
  cases q : f x y m2 with
  | none => rw [q] at h2; exact h2.elim
  | some z =>
    rw [q] at h2
    exact ⟨g2, m2, g, H, x, y, z, σ, s2, e1.trans s1 e2, rx.1.keep s1 e2.1, ry.1, q, h2⟩
theorem snd_bin {op : Operator} {a b : Expr} {pos : Pos} {fa fb : En → Mem → R W} (ha : PE Y.X a (rdE Y fa)) (hb : PE Y.X b (rdE Y fb)) :
    PE Y.X (.BinOp a op b pos) (rdE Y fun ρ m => (fa ρ m).bind fun x m => (fb ρ m).bind fun y m => .of m (binW op x y m)) :=
  (pe_op (binOk op) ha hb).imp fun σ H Q h => rd_op h
end Lo
/-! Comparisons, in, dicts read. -/
namespace Lo
open PySem PySem.Spec PyProof.Rows L2
variable {Y : Cy}
section
variable {X : Cx} {pins : List (Addr × Obj)} {σ : L2.St} {H : Hp} {s : Shared} {a : Addr} {ks : List (Key × V)}
theorem pairs_of_paired {P : Program} {w : World} : ∀ {ks : List (Key × V)} {es : List DictEntry}, Paired (fun (p : Key × V) (e : DictEntry) => keyIs p.1 e.key = true ∧ RelV p.2 e.val) ks es →
    ∃ vs : List (Key × Value), KV ks vs ∧ Pairs (mixKind P w) es vs
  | _, _, .nil => ⟨[], .nil, .nil⟩
  | (k, _) :: _, e :: _, .cons r t => by
    obtain ⟨vs, h1, h2⟩ := pairs_of_paired (P := P) (w := w) t
    exact ⟨(k, e.val) :: vs, .cons ⟨rfl, r.2⟩ h1, .cons r.1 rfl h2⟩
/-- a dict, tracked or written -/
theorem dict_of (I : Inv X pins σ H s) (h : H a = some (.dK ks) ∨ WrD X.K X.w a ks) : (a == sysModules) = false ∧ ∃ vs, KV ks vs ∧ s.heap.DictOf (mixKind X.prog X.w) a vs := by
  rcases h with h | ⟨es, n, hl, hk, hs, hp, nd⟩
  · obtain ⟨_, hs, vs, r, d⟩ := dk_of I.hok h
    exact ⟨hs, vs, r, d⟩
  · obtain ⟨vs, r, p⟩ := pairs_of_paired (P := X.prog) (w := X.w) hp
    refine ⟨hs, vs, r, _, es, n, I.kIn a _ hl, ⟨rfl, rfl, rfl⟩, rfl, fun e he => ?_, p, by rw [← r.keys]; exact nd⟩
    obtain ⟨x, t, e1, e2⟩ := hk.all e (Array.mem_toList_iff.mpr he)
    exact ⟨.inr x, by rw [e1]; exact mixKind_str _ _ x t, e2⟩
/-- the look-up in plain data, and in the heap -/
theorem look_rel {K : PySem.W.Frag} {w : World} {fz : Addr → Prop} (k : Str) : ∀ {kvs : List (PyData × PyData)} {ks : List (Key × V)}, RpK K w H fz kvs ks → strKeys kvs = true →
    (lookS k kvs = none ∧ valV ks (.inr k) = none) ∨ ∃ d v, lookS k kvs = some d ∧ valV ks (.inr k) = some v ∧ Rp K w H fz d v
  | _, _, .nil, _ => .inl ⟨rfl, rfl⟩
  | _, _, .cons (k := x) (d := d) (v := v) hk r t, hs => by
    rw [strKeys, List.all_cons, Bool.and_eq_true] at hs
    cases hk with
    | str hx =>
      rename_i x
      by_cases e : x = k
      · subst e
        exact .inr ⟨d, v, by rw [lookS, if_pos rfl], valV_pos (p := (Sum.inr x, v)) rfl, r⟩
      · rw [lookS, if_neg e, valV_neg (fun q => e (Sum.inr.inj q))]
        exact look_rel k t hs.2
    | int i => exact absurd hs.1 Bool.false_ne_true
end
/-! ### data read off the heap -/
section
variable {X : Cx} {pins : List (Addr × Obj)} {σ : L2.St} {H : Hp} {s : Shared} {fz : Addr → Prop}
/-- sys.modules stands in the written part -/
def SysK (K : PySem.W.Frag) : Prop := ∃ o, K.lookup sysModules = some o ∧ o.cls = .type "dict"
theorem not_sys (hK : SysK X.K) (I : Inv X pins σ H s) {a : Addr} {o : Obj} (h : s.heap.get? a = some o) (hc : o.cls ≠ .type "dict") : a ≠ sysModules := fun e => by
  obtain ⟨u, h1, h2⟩ := hK
  have := I.kIn _ _ h1
  rw [← e, h] at this
  cases this
  exact hc h2
theorem key_reads {h : Heap} {d : PyData} {k : Key} {u : Value} (r : KeyR d k) (e : keyIs k u = true) : ∃ as, Reads h u d as ∧ as = [] := by
  cases r with
  | str hx =>
    rename_i x
    obtain ⟨t, rfl⟩ := Value.isStrOf_shape (x := x) (v := u) e
    exact ⟨_, Reads.str x t, rfl⟩
  | int i =>
    obtain ⟨t, rfl⟩ := Value.isInt_shape (k := i) (v := u) e
    exact ⟨_, Reads.int i t, rfl⟩
mutual
theorem Rp.reads (hK : SysK X.K) (I : Inv X pins σ H s) : ∀ (d : PyData) (v : V) (u : Value), Rp X.K X.w H fz d v → RelV v u → ∃ as, Reads s.heap u d as ∧ sysModules ∉ as
  | .none, _, _, h, r => by
    obtain rfl := h.noneI
    cases r
    exact ⟨_, Reads.none, by simp⟩
  | .bool b, _, _, h, r => by
    obtain rfl := h.boolI
    cases r
    exact ⟨_, Reads.bool b, by simp⟩
  | .int i, _, _, h, r => by
    obtain rfl := h.intI
    obtain ⟨t, rfl⟩ := r
    exact ⟨_, Reads.int i t, by simp⟩
  | .str x, _, _, h, r => by
    obtain ⟨rfl, _⟩ := h.strI
    obtain ⟨t, rfl⟩ := r
    exact ⟨_, Reads.str x t, by simp⟩
  | .list ds, _, _, h, r => by
    obtain ⟨a, vs, rfl, ha, z, rs⟩ := h.lstI
    cases r
    obtain ⟨its, rv, ⟨o, n, ho, hc, _, hd⟩, _⟩ := I.list ha.sq
    obtain ⟨as, hr, hn⟩ := Rp.readsAll hK I ds _ its rs rv
    refine ⟨_, Reads.list ho hc hd hr, fun hm => ?_⟩
    rcases List.mem_cons.mp hm with e | e
    · exact not_sys hK I ho (by rw [hc]; decide) e.symm
    · exact hn e
  | .tuple ds, _, _, h, r => by
    obtain ⟨a, vs, rfl, ha, z, rs⟩ := h.tupI
    cases r
    obtain ⟨its, rv, ⟨o, ho, hc, n, hd⟩, _⟩ := I.tuple ha.sq
    obtain ⟨as, hr, hn⟩ := Rp.readsAll hK I ds _ its rs rv
    exact ⟨_, Reads.tuple ho hc hd hr, hn⟩
  | .dict kvs, _, _, h, r => by
    obtain ⟨a, ks, rfl, ha, z, rs⟩ := h.dicI
    cases r
    obtain ⟨hs, vs, rv, o, es, n, ho, hx, hd, _, hp, _⟩ := dict_of I (.inl ha.2)
    obtain ⟨as, bs, h1, h2, n1, n2⟩ := Rp.readsKv hK I kvs ks vs es.toList rs rv hp
    refine ⟨_, Reads.dict ho hx.1 hd h1 h2, fun hm => ?_⟩
    rcases List.mem_append.mp hm with e | e
    · rcases List.mem_cons.mp e with e | e
      · rw [← e] at hs; exact absurd hs (by decide)
      · exact n1 e
    · exact n2 e
theorem Rp.readsAll (hK : SysK X.K) (I : Inv X pins σ H s) : ∀ (ds : List PyData) (vs : List V) (us : List Value), RpA X.K X.w H fz ds vs → Vals vs us → ∃ as, ReadsAll s.heap us ds as ∧ sysModules ∉ as
  | [], _, _, h, r => by
    cases h
    cases r
    exact ⟨_, ReadsAll.nil, by simp⟩
  | d :: ds, _, _, h, r => by
    cases h with
    | cons h1 h2 =>
      cases r with
      | cons r1 r2 =>
        obtain ⟨as, q1, n1⟩ := Rp.reads hK I d _ _ h1 r1
        obtain ⟨bs, q2, n2⟩ := Rp.readsAll hK I ds _ _ h2 r2
        exact ⟨_, ReadsAll.cons q1 q2, fun hm => (List.mem_append.mp hm).elim n1 n2⟩
theorem Rp.readsKv (hK : SysK X.K) (I : Inv X pins σ H s) : ∀ (kvs : List (PyData × PyData)) (ks : List (Key × V)) (vs : List (Key × Value)) (es : List DictEntry), RpK X.K X.w H fz kvs ks → KV ks vs → Pairs (mixKind X.prog X.w) es vs →
    ∃ as bs, ReadsAll s.heap (es.map (·.key)) (kvs.map (·.1)) as ∧ ReadsAll s.heap (es.map (·.val)) (kvs.map (·.2)) bs ∧ sysModules ∉ as ∧ sysModules ∉ bs
  | [], _, _, _, h, r, p => by
    cases h
    cases r
    cases p
    exact ⟨_, _, ReadsAll.nil, ReadsAll.nil, by simp, by simp⟩
  | (k, d) :: kvs, _, _, _, h, r, p => by
    cases h with
    | cons hk h1 h2 =>
      cases r with
      | cons r1 r2 =>
        cases p with
        | cons p1 p2 p3 =>
          obtain ⟨as, q1, n1⟩ := Rp.reads hK I d _ _ h1 r1.2
          obtain ⟨bs, cs, q2, q3, n2, n3⟩ := Rp.readsKv hK I kvs _ _ _ h2 r2 p3
          obtain ⟨ds, q4, rfl⟩ := key_reads (h := s.heap) hk (by rw [← r1.1] at p1; exact p1)
          refine ⟨_, _, ReadsAll.cons q4 q2, ReadsAll.cons (by show Reads s.heap (DictEntry.val _) d as; rw [p2]; exact q1) q3, fun hm => n2 (by simpa using hm), fun hm => (List.mem_append.mp hm).elim n1 n3⟩
end
end
end Lo
/-! Comparisons. -/
namespace Lo
open PySem PySem.Spec PyProof.Rows L2
variable {Y : Cy}
/-- what stands around: room, nothing under repr, sys.modules written, the names unlike -/
structure Gd (Y : Cy) : Prop where
  un : Y.X.A.units + 200 < cLine
  gu : Y.X.A.guards = some []
  sys : SysK Y.X.K
  nd : Y.X.N.Nodup
section
variable {K : PySem.W.Frag} {w : World} {H : Hp} {fz : Addr → Prop}
mutual
theorem Rp.lay : ∀ {d : PyData} {v : V}, Rp K w H fz d v → noDict d = true → d.canLay0 = true
  | _, _, .non, _ => by simp only [PyData.canLay0]
  | _, _, .bl _, _ => by simp only [PyData.canLay0]
  | _, _, .int _, _ => by simp only [PyData.canLay0]
  | _, _, .str h, _ => by simp only [PyData.canLay0]; exact h.2
  | _, _, .tup _ _ r, q => by simp only [PyData.canLay0]; exact RpA.lay r (by simpa only [noDict] using q)
  | _, _, .lst _ _ r, q => by simp only [PyData.canLay0]; exact RpA.lay r (by simpa only [noDict] using q)
  | _, _, .dic _ _ _, q => by simp only [noDict] at q; cases q
theorem RpA.lay : ∀ {d : List PyData} {v : List V}, RpA K w H fz d v → noDicts d = true → PyData.canLayAll0 d = true
  | _, _, .nil, _ => by simp only [PyData.canLayAll0]
  | _, _, .cons h t, q => by
    simp only [noDicts, Bool.and_eq_true] at q
    simp only [PyData.canLayAll0, Bool.and_eq_true]
    exact ⟨Rp.lay h q.1, RpA.lay t q.2⟩
end
theorem Rp.shaped {d : PyData} {v : V} (r : Rp K w H fz d v) (h : cmpOk d = true) : SeqAt.shaped d = true := by
  unfold cmpOk at h
  rw [Bool.and_eq_true] at h
  unfold SeqAt.shaped
  rw [Bool.and_eq_true]
  exact ⟨r.lay h.1, h.2⟩
theorem Keeps.all : Keeps K H fz H (fun _ => True) := ⟨fun _ _ _ h => h, fun _ _ _ h => h, fun _ _ _ h => h, fun _ _ => trivial⟩
/-- a value as plain data -/
theorem data_rp {sx : Option (Addr × Nat)} {g : Gm} {m : Mem} {x : W} {v : V} {d : PyData} (s : Sr K w g H m) (r : Rw K w sx g H x v) (h : dataOf m x = some d) : Rp K w H (fun _ => True) d v := by
  cases x with
  | d x => cases h; exact Rp.keep Keeps.all (show Rp K w H g.fz _ v from r)
  | new xs =>
    cases h
    obtain ⟨a, vs, rfl, q, z, r, _⟩ := r
    exact .lst ⟨trivial, q⟩ z (r.keep Keeps.all)
  | newd xs =>
    cases h
    obtain ⟨a, vs, rfl, q, z, r, _⟩ := r
    exact .dic ⟨trivial, q⟩ z (r.keep Keeps.all)
  | ref n =>
    obtain ⟨a, h1, rfl⟩ := (show ∃ a, g.mu[n]? = some a ∧ v = .ref a from r)
    unfold dataOf at h
    cases q : m[n]? with
    | none => simp only [q] at h; cases h
    | some o =>
      have c := s.cell n a o h1 q
      cases o with
      | lst xs => simp only [q] at h; cases h; obtain ⟨vs, q, z, r⟩ := c; exact .lst ⟨trivial, q⟩ z (r.keep Keeps.all)
      | lk xs => simp only [q] at h; cases h; obtain ⟨vs, q, z, r⟩ := c; exact .lst ⟨trivial, q⟩ z (r.keep Keeps.all)
      | dic xs => simp only [q] at h; cases h; obtain ⟨vs, q, z, r⟩ := c; exact .dic ⟨trivial, q⟩ z (r.keep Keeps.all)
  | _ => cases h
end
section
variable {pins : List (Addr × Obj)} {σ : L2.St} {H : Hp} {s : Shared} {fz : Addr → Prop}
/-- == of plain data -/
theorem eq_data {a b : PyData} {v u : V} {vv uu : Value} {k : Bool} {Q : Value → Shared → Prop} (G : Gd Y) (I : Inv Y.X pins σ H s) (ra : Rp Y.X.K Y.X.w H fz a v) (rb : Rp Y.X.K Y.X.w H fz b u) (rv : RelV v vv) (ru : RelV u uu) (h : eqO a b = some k) :
    (Q (.bool k) s → wpAny (model Y.X.prog Y.X.w) Y.X.A (compareOp .Eq vv uu) Q Y.X.xe s) ∧ (Q (.bool (!k)) s → wpAny (model Y.X.prog Y.X.w) Y.X.A (compareOp .NotEq vv uu) Q Y.X.xe s) := by
  have hu := G.un
  have gen : (if cmpOk a && cmpOk b then some (PyData.eqv a b) else none) = some k →
      (Q (.bool k) s → wpAny (model Y.X.prog Y.X.w) Y.X.A (compareOp .Eq vv uu) Q Y.X.xe s) ∧ (Q (.bool (!k)) s → wpAny (model Y.X.prog Y.X.w) Y.X.A (compareOp .NotEq vv uu) Q Y.X.xe s) := fun e => by
    split at e
    · rename_i hc
      rw [Bool.and_eq_true] at hc
      cases e
      obtain ⟨as, r1, _⟩ := Rp.reads G.sys I a v vv ra rv
      obtain ⟨bs, r2, _⟩ := Rp.reads G.sys I b u uu rb ru
      exact ⟨fun q => SeqAt.compareEq_shaped r1 r2 (ra.shaped hc.1) (rb.shaped hc.2) (by omega) q, fun q => SeqAt.compareNe_shaped r1 r2 (ra.shaped hc.1) (rb.shaped hc.2) (by omega) q⟩
    · cases e
  have tups : ∀ xs ys : List PyData, a = .tuple xs → b = .tuple ys → (xs = [] ∨ ys = []) → k = (xs.isEmpty && ys.isEmpty) →
      (Q (.bool k) s → wpAny (model Y.X.prog Y.X.w) Y.X.A (compareOp .Eq vv uu) Q Y.X.xe s) ∧ (Q (.bool (!k)) s → wpAny (model Y.X.prog Y.X.w) Y.X.A (compareOp .NotEq vv uu) Q Y.X.xe s) := fun xs ys e1 e2 e3 e4 => by
    subst e1 e2
    obtain ⟨p1, vs, rfl, h1, _, q1⟩ := ra.tupI
    obtain ⟨p2, us, rfl, h2, _, q2⟩ := rb.tupI
    cases rv
    cases ru
    obtain ⟨its, t1, i1, _⟩ := I.tuple h1.sq
    obtain ⟨its2, t2, i2, _⟩ := I.tuple h2.sq
    have l1 : its.length = xs.length := t1.length.symm.trans q1.length.symm
    have l2 : its2.length = ys.length := t2.length.symm.trans q2.length.symm
    have z : min its.toArray.size its2.toArray.size = 0 := by
      rw [List.size_toArray, List.size_toArray, l1, l2]
      rcases e3 with e | e <;> rw [e] <;> simp
    have kk : ((List.range (min its.toArray.size its2.toArray.size)).all (fun _ => false) && its.toArray.size == its2.toArray.size) = k := by
      rw [z, e4, List.size_toArray, List.size_toArray, l1, l2]
      rcases e3 with e | e <;> subst e
      · cases ys <;> simp
      · cases xs <;> simp
    have no : ∀ j (h1 : j < its.toArray.size) (h2 : j < its2.toArray.size), SeqAt.EqAt Y.X.A.in1 s its.toArray[j] its2.toArray[j] ((fun _ => false) j) := fun j h1 h2 => by omega
    refine ⟨fun q => SeqAt.eq_tupleAt i1 i2 (by omega) no (by rw [kk]; exact q), fun q => SeqAt.RcNeAt.tuples i1 i2 (by omega) no Y.X.prog Y.X.w _ _ (by rw [kk]; exact q)⟩
  unfold eqO at h
  split at h
  · rename_i ys
    cases h
    exact tups [] ys rfl rfl (.inl rfl) (by simp)
  · rename_i xs _
    cases h
    exact tups xs [] rfl rfl (.inr rfl) (by simp)
  · exact gen h
end
theorem cmpInts {op : CmpOp} {f : Int → Int → Bool} (ho : OpR Y.X (compareOp op) (rI0 fun i j => .bl (f i j))) (hf : ∀ x y m k, cmpW op x y m = some k → ∃ i j, x = .d (.int i) ∧ y = .d (.int j) ∧ k = f i j) :
    OpR Y.X (compareOp op) (rOp Y fun x y m => okB (cmpW op x y m)) := by
  intro pins s σ H v u vv uu Q I rv ru h
  obtain ⟨g, m, g0, H0, x, y, z, σ', S, E0, rx, ry, e, q⟩ := h
  dsimp only at e
  cases hk : cmpW op x y m with
  | none => rw [hk] at e; cases e
  | some k =>
    rw [hk] at e
    cases e
    obtain ⟨i, j, rfl, rfl, rfl⟩ := hf x y m k hk
    obtain rfl := Rp.intI (show Rp _ _ _ _ (.int i) v from rx)
    obtain rfl := Rp.intI (show Rp _ _ _ _ (.int j) u from ry)
    exact ho pins s σ H _ _ vv uu Q I rv ru ⟨i, j, rfl, rfl, q.blD S E0⟩
theorem cmpW_ints {op : CmpOp} {x y : W} {m : Mem} {k : Bool} (h : cmpW op x y m = some k) (ho : op = .Lt ∨ op = .LtE ∨ op = .Gt ∨ op = .GtE) : ∃ i j, x = .d (.int i) ∧ y = .d (.int j) := by
  rcases ho with rfl | rfl | rfl | rfl <;>
    (unfold cmpW at h; dsimp only at h; split at h <;> first | exact ⟨_, _, rfl, rfl⟩ | cases h)
theorem room_in {A : Around} {ys : List PyData} {d : PyData} (hd : cmpOk d = true) (hu : A.units + 200 < cLine) : A.units + 1 + min (PyData.depthAll ys) d.depth < cLine := by
  unfold cmpOk at hd
  rw [Bool.and_eq_true] at hd
  have h1 : d.depth ≤ 64 := of_decide_eq_true hd.2
  have h2 : min (PyData.depthAll ys) d.depth ≤ d.depth := Nat.min_le_right _ _
  omega
theorem cmpOks : ∀ {ys : List PyData}, ys.all cmpOk = true → noDicts ys = true
  | [], _ => rfl
  | y :: ys, h => by
    rw [List.all_cons, Bool.and_eq_true] at h
    have h1 := h.1
    unfold cmpOk at h1
    rw [Bool.and_eq_true] at h1
    show (noDict y && noDicts ys) = true
    rw [Bool.and_eq_true]
    exact ⟨h1.1, cmpOks h.2⟩
/-- in, not in -/
theorem inOk (G : Gd Y) {pins : List (Addr × Obj)} {s : Shared} {σ : L2.St} {H : Hp} {v u : V} {vv uu : Value} {g : Gm} {m : Mem} {x y : W} {k : Bool} {Q : VK} (I : Inv Y.X pins σ H s) (rv : RelV v vv) (ru : RelV u uu)
    (S : Sr Y.X.K Y.X.w g H m) (rx : Rw Y.X.K Y.X.w Y.sx g H x v) (ry : Rw Y.X.K Y.X.w Y.sx g H y u) (e : cmpW.inW x y m = some k) :
    (Q (.bl k) H → wpAny (model Y.X.prog Y.X.w) Y.X.A (compareOp .In vv uu) (EP Y.X pins σ Q) Y.X.xe s) ∧ (Q (.bl (!k)) H → wpAny (model Y.X.prog Y.X.w) Y.X.A (compareOp .NotIn vv uu) (EP Y.X pins σ Q) Y.X.xe s) := by
  have hu := G.un
  have seqs : ∀ a ys, x = .d a → inO a ys = some k → (∃ p vs, u = .ref p ∧ ((H p = some (.lst vs)) ∨ TpAt Y.X.K H p vs) ∧ vs.length ≤ LINE ∧ RpA Y.X.K Y.X.w H g.fz ys vs) →
      (Q (.bl k) H → wpAny (model Y.X.prog Y.X.w) Y.X.A (compareOp .In vv uu) (EP Y.X pins σ Q) Y.X.xe s) ∧ (Q (.bl (!k)) H → wpAny (model Y.X.prog Y.X.w) Y.X.A (compareOp .NotIn vv uu) (EP Y.X pins σ Q) Y.X.xe s) := fun a ys ea e' ⟨p, us, eu, hp, z, r⟩ => by
    subst ea eu
    unfold inO at e'
    split at e'
    · rename_i hc
      rw [Bool.and_eq_true] at hc
      cases e'
      have rd : Rp Y.X.K Y.X.w H (fun _ => True) a v := Rp.keep Keeps.all (show Rp Y.X.K Y.X.w H g.fz a v from rx)
      obtain ⟨bs, r2, _⟩ := Rp.reads G.sys I _ _ vv rd rv
      have c1 := r.lay (cmpOks hc.2)
      have c2 := SeqAt.canLay_of_shaped (rd.shaped hc.1)
      rcases hp with hp | hp
      · have rl : Rp Y.X.K Y.X.w H (fun _ => True) (.list ys) (.ref p) := .lst ⟨trivial, hp⟩ z (r.keep Keeps.all)
        obtain ⟨as, r1, _⟩ := Rp.reads G.sys I _ _ uu rl ru
        exact ⟨fun q => SeqAt.in_list_reads r1 r2 c1 c2 (room_in hc.1 hu) ⟨.bl _, H, I, rfl, q⟩, fun q => SeqAt.notIn_list_reads r1 r2 c1 c2 (room_in hc.1 hu) ⟨.bl _, H, I, rfl, q⟩⟩
      · have rl : Rp Y.X.K Y.X.w H (fun _ => True) (.tuple ys) (.ref p) := .tup hp z (r.keep Keeps.all)
        obtain ⟨as, r1, _⟩ := Rp.reads G.sys I _ _ uu rl ru
        exact ⟨fun q => SeqAt.in_tuple_reads r1 r2 c1 c2 (room_in hc.1 hu) ⟨.bl _, H, I, rfl, q⟩, fun q => SeqAt.notIn_tuple_reads r1 r2 c1 c2 (room_in hc.1 hu) ⟨.bl _, H, I, rfl, q⟩⟩
    · cases e'
  unfold cmpW.inW at e
  split at e
  · rename_i a b
    cases e
    obtain ⟨rfl, _⟩ := Rp.strI (show Rp _ _ _ _ (.str a) v from rx)
    obtain ⟨rfl, _⟩ := Rp.strI (show Rp _ _ _ _ (.str b) u from ry)
    exact ⟨fun q => op_in_str pins s σ H _ _ vv uu Q I rv ru ⟨a, b, rfl, rfl, q⟩, fun q => op_notin_str pins s σ H _ _ vv uu Q I rv ru ⟨a, b, rfl, rfl, q⟩⟩
  · rename_i a ys
    obtain ⟨p, us, rfl, hp, z, r⟩ := Rp.tupI (show Rp _ _ _ _ (.tuple ys) u from ry)
    exact seqs a ys rfl e ⟨p, us, rfl, .inr hp, z, r⟩
  · rename_i a _ _
    cases hy : listOf m y with
    | some ys =>
      rw [hy] at e
      obtain ⟨p, us, rfl, hp, z, r⟩ := list_at S ry hy
      exact seqs a ys rfl e ⟨p, us, rfl, .inl hp, z, r⟩
    | none =>
      rw [hy] at e
      dsimp only at e
      split at e
      · rename_i k0 kvs hd _
        split at e
        · rename_i hs
          cases e
          obtain ⟨rfl, _⟩ := Rp.strI (show Rp _ _ _ _ (.str k0) v from rx)
          obtain ⟨p, ks, rfl, hp, z, r⟩ := dictR_at S ry hd
          cases ru
          obtain ⟨t, rfl⟩ := rv
          obtain ⟨hsy, vs, kv, dd⟩ := dict_of I hp
          have hk : (valueAt vs (Sum.inr k0)).isSome = (lookS k0 kvs).isSome := by
            rw [← (kv.val (Sum.inr k0)).isSome_eq]
            rcases look_rel k0 r hs with ⟨h1, h2⟩ | ⟨d, u, h1, h2, _⟩ <;> rw [h1, h2] <;> rfl
          refine ⟨fun q => wpAny_in_of (mixKind_str _ _ k0 t) hsy dd.mapOf ?_, fun q => wpAny_notIn_of (mixKind_str _ _ k0 t) hsy dd.mapOf ?_⟩
          · rw [hk]; exact ⟨.bl _, H, I.tok _, rfl, q⟩
          · rw [hk]; exact ⟨.bl _, H, I.tok _, rfl, q⟩
        · cases e
      · cases e
  · cases e
theorem cmpOkR (G : Gd Y) (op : CmpOp) : OpR Y.X (compareOp op) (rOp Y fun x y m => okB (cmpW op x y m)) := by
  have no : (∀ x y m k, cmpW op x y m ≠ some k) → OpR Y.X (compareOp op) (rOp Y fun x y m => okB (cmpW op x y m)) := fun n pins s σ H v u vv uu Q I rv ru ⟨_, m, _, _, x, y, z, _, _, _, _, _, e, _⟩ => by
    dsimp only at e
    cases hk : cmpW op x y m with
    | none => rw [hk] at e; cases e
    | some k => exact absurd hk (n x y m k)
  cases op with
  | Lt => exact cmpInts op_lt fun x y m k h => by obtain ⟨i, j, rfl, rfl⟩ := cmpW_ints h (by simp); cases h; exact ⟨i, j, rfl, rfl, rfl⟩
  | LtE => exact cmpInts op_le fun x y m k h => by obtain ⟨i, j, rfl, rfl⟩ := cmpW_ints h (by simp); cases h; exact ⟨i, j, rfl, rfl, rfl⟩
  | Gt => exact cmpInts op_gt fun x y m k h => by obtain ⟨i, j, rfl, rfl⟩ := cmpW_ints h (by simp); cases h; exact ⟨i, j, rfl, rfl, rfl⟩
  | GtE => exact cmpInts op_ge fun x y m k h => by obtain ⟨i, j, rfl, rfl⟩ := cmpW_ints h (by simp); cases h; exact ⟨i, j, rfl, rfl, rfl⟩
  | Eq =>
    intro pins s σ H v u vv uu Q I rv ru h
    obtain ⟨g, m, g0, H0, x, y, z, σ', S, E0, rx, ry, e, q⟩ := h
    dsimp only at e
    cases hx : dataOf m x with
    | none => simp only [cmpW, hx] at e; cases e
    | some a =>
      cases hy : dataOf m y with
      | none => simp only [cmpW, hx, hy] at e; cases e
      | some b =>
        simp only [cmpW, hx, hy] at e
        cases hk : eqO a b with
        | none => rw [hk] at e; cases e
        | some k =>
          rw [hk] at e
          cases e
          exact (eq_data G I (data_rp S rx hx) (data_rp S ry hy) rv ru hk).1 ⟨.bl k, H, I, rfl, q.blD S E0⟩
  | NotEq =>
    intro pins s σ H v u vv uu Q I rv ru h
    obtain ⟨g, m, g0, H0, x, y, z, σ', S, E0, rx, ry, e, q⟩ := h
    dsimp only at e
    cases hx : dataOf m x with
    | none => simp only [cmpW, hx] at e; cases e
    | some a =>
      cases hy : dataOf m y with
      | none => simp only [cmpW, hx, hy] at e; cases e
      | some b =>
        simp only [cmpW, hx, hy] at e
        cases hk : eqO a b with
        | none => rw [hk] at e; cases e
        | some k =>
          rw [hk] at e
          cases e
          exact (eq_data G I (data_rp S rx hx) (data_rp S ry hy) rv ru hk).2 ⟨.bl (!k), H, I, rfl, q.blD S E0⟩
  | In =>
    intro pins s σ H v u vv uu Q I rv ru h
    obtain ⟨g, m, g0, H0, x, y, z, σ', S, E0, rx, ry, e, q⟩ := h
    dsimp only at e
    simp only [cmpW] at e
    cases hk : cmpW.inW x y m with
    | none => rw [hk] at e; cases e
    | some k => rw [hk] at e; cases e; exact (inOk G I rv ru S rx ry hk).1 (q.blD S E0)
  | NotIn =>
    intro pins s σ H v u vv uu Q I rv ru h
    obtain ⟨g, m, g0, H0, x, y, z, σ', S, E0, rx, ry, e, q⟩ := h
    dsimp only at e
    simp only [cmpW] at e
    cases hk : cmpW.inW x y m with
    | none => rw [hk] at e; cases e
    | some k => rw [hk] at e; cases e; exact (inOk G I rv ru S rx ry hk).2 (q.blD S E0)
  | Is => exact no fun x y m k h => by simp only [cmpW] at h; cases h
  | IsNot => exact no fun x y m k h => by simp only [cmpW] at h; cases h
theorem snd_cmp (G : Gd Y) {op : CmpOp} {a b : Expr} {pos : Pos} {fa fb : En → Mem → R W} (ha : PE Y.X a (rdE Y fa)) (hb : PE Y.X b (rdE Y fb)) (hm : behindInMarks op b = false) :
    PE Y.X (.Compare a [op] [b] pos) (rdE Y fun ρ m => (fa ρ m).bind fun x m => (fb ρ m).bind fun y m => .of m (okB (cmpW op x y m))) :=
  (pe_cmpR (cmpOkR G op) ha hb hm).imp fun σ H Q h => rd_op h
end Lo
/-! Tests, displays, subscripts. -/
namespace Lo
open PySem PySem.Spec PyProof.Rows L2
variable {Y : Cy}
/-- as a test -/
def asT (f : En → Mem → R W) : En → Mem → R Bool := fun ρ m => (f ρ m).bind fun w m => .of m (truth m w)
theorem truth_bool {m : Mem} {w : W} {b : Bool} (h : truth m w = some b) : w = .d (.bool b) := by
  unfold truth at h
  split at h
  · cases h; rfl
  · cases h
theorem rd_truth {f : En → Mem → R W} {σ : L2.St} {H : Hp} {Q : Bool → Hp → Prop} (h : rdT Y (asT f) σ H Q) : rdE Y f σ H fun x H1 => ∃ c, x = .bl c ∧ Q c H1 := by
  obtain ⟨ρ, m, g, s, e, h⟩ := h
  refine rd_step s e Ext0.refl h fun x m1 v H1 g1 s1 e1 rx E1 h1 => ?_
  cases q : truth m1 x with
  | none => rw [q] at h1; exact h1.elim
  | some b =>
    rw [q] at h1
    obtain rfl := truth_bool q
    obtain rfl := Rp.boolI (show Rp _ _ _ _ (.bool b) v from rx.1)
    exact ⟨b, rfl, h1 b H1 g1 s1 e1 rfl⟩
theorem pt_plain {e : Expr} {f : En → Mem → R W} (h : PE Y.X e (rdE Y f)) (he : ∀ whole, isTrue e Y.X.env whole = (do let v ← whole; standAt e.pos; holding [v] (truthy v))) : PT Y.X e (rdT Y (asT f)) :=
  (pt_val h he).imp fun σ H Q q => rd_truth q
section
variable {a b c : Expr} {pos : Pos} {fa fb fc : En → Mem → R W}
theorem snt_cmp (G : Gd Y) {op : CmpOp} (ha : PE Y.X a (rdE Y fa)) (hb : PE Y.X b (rdE Y fb)) (hm : behindInMarks op b = false) :
    PT Y.X (.Compare a [op] [b] pos) (rdT Y (asT fun ρ m => (fa ρ m).bind fun x m => (fb ρ m).bind fun y m => .of m (okB (cmpW op x y m)))) :=
  (pt_cmpR (cmpOkR G op) ha hb hm).imp fun σ H Q h => rd_op (rd_truth h)
/-! ### is None -/
theorem rd_isN {σ : L2.St} {H : Hp} {Q : VK} {k : Bool → Bool} (h : rdE Y (fun ρ m => (fa ρ m).bind fun x m => .ok (.d (.bool (k (isNone x)))) m) σ H Q) :
    rdE Y fa σ H fun x H1 => Q (.bl (k (decide (x = .non)))) H1 := by
  obtain ⟨ρ, m, g, s, e, h⟩ := h
  refine rd_step s e Ext0.refl h fun x m1 v H1 g1 s1 e1 rx E1 h1 => ?_
  have fin : (isNone x) = decide (v = .non) := by
    cases x with
    | d x =>
      have rx : Rp Y.X.K Y.X.w H1 g1.fz x v := rx.1
      cases rx <;> rfl
    | ref n => obtain ⟨a, _, rfl⟩ := (show ∃ a, g1.mu[n]? = some a ∧ v = .ref a from rx.1); rfl
    | new xs => obtain ⟨a, vs, rfl, _⟩ := rx.1; rfl
    | newd xs => obtain ⟨a, vs, rfl, _⟩ := rx.1; rfl
    | ro xs => obtain ⟨a, o, vs, rfl, _⟩ := rx.1; rfl
    | rod xs => obtain ⟨a, vs, rfl, _⟩ := rx.1; rfl
    | exc c => obtain ⟨a, _, rfl⟩ := (show ∃ a, Y.sx = some (a, c) ∧ v = .ref a from rx.1); rfl
    | it xs => exact rx.1.elim
  rw [fin] at h1
  exact h1.blD s1 e1
theorem snd_isN {j p} (ha : PE Y.X a (rdE Y fa)) : PE Y.X (.Compare a [.Is] [.Constant .none j p] pos) (rdE Y fun ρ m => (fa ρ m).bind fun x m => .ok (.d (.bool (isNone x))) m) :=
  (pe_cmp (pc_isN ha) rfl).imp fun σ H Q h => rd_isN (k := id) h
theorem snt_isN {j p} (ha : PE Y.X a (rdE Y fa)) : PT Y.X (.Compare a [.Is] [.Constant .none j p] pos) (rdT Y (asT fun ρ m => (fa ρ m).bind fun x m => .ok (.d (.bool (isNone x))) m)) :=
  (pt_cmp (pc_isN ha) rfl).imp fun σ H Q h => rd_isN (k := id) (rd_truth h)
theorem snd_notN {j p} (ha : PE Y.X a (rdE Y fa)) : PE Y.X (.Compare a [.IsNot] [.Constant .none j p] pos) (rdE Y fun ρ m => (fa ρ m).bind fun x m => .ok (.d (.bool (!isNone x))) m) :=
  (pe_cmp (pc_notN ha) rfl).imp fun σ H Q h => rd_isN (k := fun b => !b) h
theorem snt_notN {j p} (ha : PE Y.X a (rdE Y fa)) : PT Y.X (.Compare a [.IsNot] [.Constant .none j p] pos) (rdT Y (asT fun ρ m => (fa ρ m).bind fun x m => .ok (.d (.bool (!isNone x))) m)) :=
  (pt_cmp (pc_notN ha) rfl).imp fun σ H Q h => rd_isN (k := fun b => !b) (rd_truth h)
/-! ### chains -/
def chnF (o1 o2 : CmpOp) (fa fb fc : En → Mem → R W) : En → Mem → R W := fun ρ m => (fa ρ m).bind fun x m => (fb ρ m).bind fun y m => match cmpW o1 x y m with
    | some true => (fc ρ m).bind fun z m => .of m (okB (cmpW o2 y z m))
    | some false => .ok (.d (.bool false)) m
    | none => .bad
theorem rd_chn {o1 o2 : CmpOp} {σ : L2.St} {H : Hp} {Q : VK} (h : rdE Y (chnF o1 o2 fa fb fc) σ H Q) :
    tChain (rOp Y fun x y m => okB (cmpW o1 x y m)) (rOp Y fun x y m => okB (cmpW o2 x y m)) (rdE Y fa) (rdE Y fb) (rdE Y fc) σ H Q := by
  obtain ⟨ρ, m, g, s, e, h⟩ := h
  refine rd_step s e Ext0.refl h fun x m1 v H1 g1 s1 e1 rx E1 h1 => ?_
  refine rd_step s1 E1 e1 h1 fun y m2 u H2 g2 s2 e2 ry E2 h2 => ?_
  have e12 := e1.trans s1 e2
  cases q : cmpW o1 x y m2 with
  | none => simp only [q] at h2; exact h2.elim
  | some k =>
    refine ⟨g2, m2, g2, H2, x, y, .d (.bool k), σ, s2, Ext0.refl, rx.1.keep s1 e2.1, ry.1, by simp only [q, okB, Option.map_some], ?_⟩
    intro b H3 g3 s3 e3 rb
    obtain rfl := Rp.boolI (show Rp _ _ _ _ (.bool k) b from rb.1)
    refine ⟨k, rfl, ?_⟩
    have e13 := e12.trans s2 e3
    cases k with
    | false =>
      rw [if_neg Bool.false_ne_true]
      simp only [q] at h2
      exact h2.blD s3 e13
    | true =>
      rw [if_pos rfl]
      simp only [q] at h2
      refine rd_step s3 (E2.keep s2 e3.1) e13 h2 fun z m3 z' H4 g4 s4 e4 rz E4 h4 => ?_
      cases q2 : cmpW o2 y z m3 with
      | none => simp only [q2] at h4; exact h4.elim
      | some k2 =>
        simp only [q2] at h4
        exact ⟨g4, m3, g, H, y, z, _, σ, s4, e13.trans s3 e4, (ry.1.keep s2 e3.1).keep s3 e4.1, rz.1, by simp only [q2, okB, Option.map_some], h4⟩
theorem snd_chn (G : Gd Y) {o1 o2 : CmpOp} (ha : PE Y.X a (rdE Y fa)) (hb : PE Y.X b (rdE Y fb)) (hc : PE Y.X c (rdE Y fc)) (hm : lastMarks [o1, o2] [b, c] = false) :
    PE Y.X (.Compare a [o1, o2] [b, c] pos) (rdE Y (chnF o1 o2 fa fb fc)) := (pe_chain (cmpOkR G o1) (cmpOkR G o2) ha hb hc hm).imp fun σ H Q h => rd_chn h
theorem snt_chn (G : Gd Y) {o1 o2 : CmpOp} (ha : PE Y.X a (rdE Y fa)) (hb : PE Y.X b (rdE Y fb)) (hc : PE Y.X c (rdE Y fc)) (hm : lastMarks [o1, o2] [b, c] = false) :
    PT Y.X (.Compare a [o1, o2] [b, c] pos) (rdT Y (asT (chnF o1 o2 fa fb fc))) := (pt_chain (cmpOkR G o1) (cmpOkR G o2) ha hb hc hm).imp fun σ H Q h => rd_chn (rd_truth h)
/-! ### not, and, or -/
def notF (fa : En → Mem → R W) : En → Mem → R W := fun ρ m => (fa ρ m).bind fun w m => (R.of m (truth m w)).bind fun b m => .ok (.d (.bool (!b))) m
theorem snd_not (ha : PE Y.X a (rdE Y fa)) : PE Y.X (.UnaryOp .Not a pos) (rdE Y (notF fa)) :=
  (pe_not ha).imp fun σ H Q ⟨ρ, m, g, s, e, h⟩ => rd_step s e Ext0.refl h fun x m1 v H1 g1 s1 e1 rx E1 h1 => by
    cases q : truth m1 x with
    | none => simp only [q] at h1; exact h1.elim
    | some b =>
      simp only [q] at h1
      obtain rfl := truth_bool q
      obtain rfl := Rp.boolI (show Rp _ _ _ _ (.bool b) v from rx.1)
      exact ⟨b, rfl, h1.blD s1 e1⟩
theorem bind_assoc {α β γ : Type} (r : R α) (f : α → Mem → R β) (k : β → Mem → R γ) : (r.bind f).bind k = r.bind fun a m => (f a m).bind k := by cases r <;> rfl
theorem snt_not (ha : PT Y.X a (rdT Y (asT fa))) : PT Y.X (.UnaryOp .Not a pos) (rdT Y (asT (notF fa))) :=
  (pt_not ha).imp fun σ H Q ⟨ρ, m, g, s, e, h⟩ => by
    have h : Pst Y relB g H σ (((asT fa) ρ m).bind fun b m => .ok (!b) m) Q := by
      have q : (asT (notF fa)) ρ m = ((asT fa) ρ m).bind fun b m => .ok (!b) m := by
        unfold asT notF
        rw [bind_assoc, bind_assoc]
        congr 1
        funext w m
        rw [bind_assoc]
        rfl
      rw [← q]
      exact h
    exact rd_step s e Ext0.refl h fun x m1 v H1 g1 s1 e1 rx E1 h1 => by
      cases rx
      exact h1 _ H1 g1 s1 e1 rfl
/-- one more under and, or -/
def andF (fa fb : En → Mem → R W) : En → Mem → R W := fun ρ m => (fa ρ m).bind fun w m => match w with
    | .d (.bool true) => fb ρ m
    | .d (.bool false) => .ok (.d (.bool false)) m
    | _ => .bad
def orF (fa fb : En → Mem → R W) : En → Mem → R W := fun ρ m => (fa ρ m).bind fun w m => match w with
    | .d (.bool false) => fb ρ m
    | .d (.bool true) => .ok (.d (.bool true)) m
    | _ => .bad
variable {es : List Expr}
theorem snd_one {op} (ha : PE Y.X a (rdE Y fa)) : PE Y.X (.BoolOp op [a] pos) (rdE Y fa) := pe_one ha
theorem snd_and (ha : PE Y.X a (rdE Y fa)) (hb : PE Y.X (.BoolOp .And (b :: es) pos) (rdE Y fb)) : PE Y.X (.BoolOp .And (a :: b :: es) pos) (rdE Y (andF fa fb)) :=
  (pe_and ha hb).imp fun σ H Q ⟨ρ, m, g, s, e, h⟩ => rd_step s e Ext0.refl h fun x m1 v H1 g1 s1 e1 rx E1 h1 => by
    split at h1
    · obtain rfl := Rp.boolI (show Rp _ _ _ _ (.bool true) v from rx.1)
      exact ⟨true, rfl, iteT ⟨ρ, m1, g1, s1, E1, h1.fromW s1 e1⟩⟩
    · obtain rfl := Rp.boolI (show Rp _ _ _ _ (.bool false) v from rx.1)
      exact ⟨false, rfl, iteF (h1.blD s1 e1)⟩
    · exact h1.elim
theorem snd_or (ha : PE Y.X a (rdE Y fa)) (hb : PE Y.X (.BoolOp .Or (b :: es) pos) (rdE Y fb)) : PE Y.X (.BoolOp .Or (a :: b :: es) pos) (rdE Y (orF fa fb)) :=
  (pe_or ha hb).imp fun σ H Q ⟨ρ, m, g, s, e, h⟩ => rd_step s e Ext0.refl h fun x m1 v H1 g1 s1 e1 rx E1 h1 => by
    split at h1
    · obtain rfl := Rp.boolI (show Rp _ _ _ _ (.bool false) v from rx.1)
      exact ⟨false, rfl, iteF ⟨ρ, m1, g1, s1, E1, h1.fromW s1 e1⟩⟩
    · obtain rfl := Rp.boolI (show Rp _ _ _ _ (.bool true) v from rx.1)
      exact ⟨true, rfl, iteT (h1.blD s1 e1)⟩
    · exact h1.elim
theorem snt_and1 (ha : PT Y.X a (rdT Y (asT fa))) : PW Y.X (.BoolOp .And [a] pos) (rdT Y (asT fa)) := pw_and1 ha
theorem snt_or1 (ha : PT Y.X a (rdT Y (asT fa))) : PW Y.X (.BoolOp .Or [a] pos) (rdT Y (asT fa)) := pw_or1 ha
theorem snt_and (ha : PT Y.X a (rdT Y (asT fa))) (hb : PW Y.X (.BoolOp .And (b :: es) pos) (rdT Y (asT fb))) : PW Y.X (.BoolOp .And (a :: b :: es) pos) (rdT Y (asT (andF fa fb))) :=
  (pw_and ha hb).imp fun σ H Q ⟨ρ, m, g, s, e, h⟩ => by
    have q : (asT (andF fa fb)) ρ m = ((asT fa) ρ m).bind fun b m => if b = true then asT fb ρ m else .ok false m := by
      unfold asT andF
      rw [bind_assoc, bind_assoc]
      congr 1
      funext w m
      split <;> first | rfl | skip
      rename_i h1 h2
      have : truth m w = none := by
        unfold truth
        split
        · rename_i b
          cases b
          · exact absurd rfl h2
          · exact absurd rfl h1
        · rfl
      rw [this]
      rfl
    rw [q] at h
    exact rd_step s e Ext0.refl h fun x m1 v H1 g1 s1 e1 rx E1 h1 => by
      cases rx
      cases x with
      | true => exact iteT ⟨ρ, m1, g1, s1, E1, h1.fromB s1 e1⟩
      | false => exact iteF (h1 _ H1 g1 s1 e1 rfl)
theorem snt_or (ha : PT Y.X a (rdT Y (asT fa))) (hb : PW Y.X (.BoolOp .Or (b :: es) pos) (rdT Y (asT fb))) : PW Y.X (.BoolOp .Or (a :: b :: es) pos) (rdT Y (asT (orF fa fb))) :=
  (pw_or ha hb).imp fun σ H Q ⟨ρ, m, g, s, e, h⟩ => by
    have q : (asT (orF fa fb)) ρ m = ((asT fa) ρ m).bind fun b m => if b = true then .ok true m else asT fb ρ m := by
      unfold asT orF
      rw [bind_assoc, bind_assoc]
      congr 1
      funext w m
      split <;> first | rfl | skip
      rename_i h1 h2
      have : truth m w = none := by
        unfold truth
        split
        · rename_i b
          cases b
          · exact absurd rfl h1
          · exact absurd rfl h2
        · rfl
      rw [this]
      rfl
    rw [q] at h
    exact rd_step s e Ext0.refl h fun x m1 v H1 g1 s1 e1 rx E1 h1 => by
      cases rx
      cases x with
      | true => exact iteT (h1 _ H1 g1 s1 e1 rfl)
      | false => exact iteF ⟨ρ, m1, g1, s1, E1, h1.fromB s1 e1⟩
/-! ### a if t else b -/
def iteFn (fc fa fb : En → Mem → R W) : En → Mem → R W := fun ρ m => (fc ρ m).bind fun w m => (R.of m (truth m w)).bind fun t m => if t then fa ρ m else fb ρ m
theorem snd_ite (hc : PT Y.X c (rdT Y (asT fc))) (ha : PE Y.X a (rdE Y fa)) (hb : PE Y.X b (rdE Y fb)) : PE Y.X (.IfExp c a b pos) (rdE Y (iteFn fc fa fb)) :=
  (pe_ifExp hc ha hb).imp fun σ H Q ⟨ρ, m, g, s, e, h⟩ => by
    have h : Pst Y (relW Y) g H σ (((asT fc) ρ m).bind fun t m => if t then fa ρ m else fb ρ m) Q := by
      unfold asT
      rw [bind_assoc]
      exact h
    exact rd_step s e Ext0.refl h fun x m1 v H1 g1 s1 e1 rx E1 h1 => by
      cases rx
      cases x with
      | true => exact iteT ⟨ρ, m1, g1, s1, E1, h1.fromW s1 e1⟩
      | false => exact iteF ⟨ρ, m1, g1, s1, E1, h1.fromW s1 e1⟩
end
end Lo
/-! Displays, subscripts, slices. -/
namespace Lo
open PySem PySem.Spec PyProof.Rows L2
variable {Y : Cy}
/-- all that was made behind H0 is kept as it is from here on -/
def Gm.ice (g : Gm) (H0 H : Hp) : Gm := ⟨g.mu, fun a => g.fz a ∨ (a ∉ g.mu ∧ H0 a = none ∧ H a ≠ none), g.lk⟩
section
variable {K : PySem.W.Frag} {w : World} {sx : Option (Addr × Nat)} {g0 g : Gm} {H0 H : Hp} {m : Mem}
theorem ice_keeps : Keeps K H g.fz H (g.ice H0 H).fz := ⟨fun _ _ _ h => h, fun _ _ _ h => h, fun _ _ _ h => h, fun _ h => .inl h⟩
theorem ice_sr (s : Sr K w g H m) : Sr K w (g.ice H0 H) H m where
  len := s.len
  nd := s.nd
  dis := fun a h => h.elim (s.dis a) fun q => q.1
  fzs := fun a h => h.elim (s.fzs a) fun q => q.2.2
  cell := fun n a o h1 h2 => (s.cell n a o h1 h2).keep ice_keeps rfl
  lkd := s.lkd
  lkm := s.lkm
theorem ice_ext (x : Ext0 g0 H0 g H) : Ext0 g0 H0 (g.ice H0 H) H :=
  ⟨⟨x.1.mu, fun a h => .inl (x.1.fz a h), fun a h => h.elim (x.1.nfz a) fun q => .inr q.2.1, x.1.keep, x.1.lk⟩, x.2⟩
theorem ice_rv {x : W} {v : V} (r : Rv K w sx g H x v) : Rv K w sx (g.ice H0 H) H x v := by
  cases x with
  | d x => exact Rp.keep ice_keeps r
  | ref n => exact r
  | exc c => exact r
  | ro xs => obtain ⟨a, o, vs, h1, h2, z, r⟩ := r; exact ⟨a, o, vs, h1, h2, z, r.keep ice_keeps⟩
  | rod xs => obtain ⟨a, vs, h1, h2, z, r⟩ := r; exact ⟨a, vs, h1, h2, z, r.keep ice_keeps⟩
  | _ => exact r.elim
/-- what is laid into a tuple or list -/
theorem ice_laid {x : W} {v : V} {d : PyData} (r : Rw K w sx g H x v) (f : Fresh H0 x v) (h : laid x = some d) : Rp K w H (g.ice H0 H).fz d v := by
  cases x with
  | d x => cases h; exact Rp.keep ice_keeps (show Rp K w H g.fz _ v from r)
  | new xs =>
    cases h
    obtain ⟨a, vs, rfl, q, z, r, _, n⟩ := r
    exact .lst ⟨.inr ⟨n, f a rfl, by rw [q]; exact fun z => nomatch z⟩, q⟩ z (r.keep ice_keeps)
  | newd xs =>
    cases h
    obtain ⟨a, vs, rfl, q, z, r, _, n⟩ := r
    exact .dic ⟨.inr ⟨n, f a rfl, by rw [q]; exact fun z => nomatch z⟩, q⟩ z (r.keep ice_keeps)
  | _ => cases h
theorem ice_laidAll : ∀ {xs : List W} {vs : List V} {ds : List PyData}, RwA K w sx g H0 H xs vs → laidAll xs = some ds → RpA K w H (g.ice H0 H).fz ds vs
  | _, _, _, .nil, h => by cases h; exact .nil
  | _, _, _, .cons (x := x) (xs := xs) a b c, h => by
    unfold laidAll at h
    cases e1 : laid x with
    | none => simp only [e1] at h; cases h
    | some d =>
      cases e2 : laidAll xs with
      | none => simp only [e1, e2] at h; cases h
      | some ds =>
        simp only [e1, e2] at h
        cases h
        exact .cons (ice_laid a b e1) (ice_laidAll c e2)
theorem RwA.length {xs : List W} {vs : List V} (h : RwA K w sx g H0 H xs vs) : xs.length = vs.length := by
  induction h with
  | nil => rfl
  | cons _ _ _ ih => rw [List.length_cons, List.length_cons, ih]
end
/-! ### several expressions -/
def consF (fa : En → Mem → R W) (fs : En → Mem → R (List W)) : En → Mem → R (List W) := fun ρ m => (fa ρ m).bind fun x m => (fs ρ m).bind fun xs m => .ok (x :: xs) m
theorem sna_nil : PA Y.X [] (rdA Y fun _ m => .ok [] m) := pa_nil.imp fun σ H Q ⟨ρ, m, g, s, e, h⟩ => h [] H g s Ext0.refl .nil
theorem sna_cons {e : Expr} {es : List Expr} {fa : En → Mem → R W} {fs : En → Mem → R (List W)} (ha : PE Y.X e (rdE Y fa)) (hs : PA Y.X es (rdA Y fs)) (hst : starEach (e :: es) Y.X.env = (false, eval e Y.X.env) :: starEach es Y.X.env) :
    PA Y.X (e :: es) (rdA Y (consF fa fs)) :=
  (pa_cons ha hs hst).imp fun σ H Q ⟨ρ, m, g, s, e, h⟩ => rd_step s e Ext0.refl h fun x m1 v H1 g1 s1 e1 rx E1 h1 =>
    rd_step s1 E1 e1 h1 fun xs m2 vs H2 g2 s2 e2 rxs E2 h2 =>
      h2 (v :: vs) H2 g2 s2 (e1.trans s1 e2) (.cons (rx.1.keep s1 e2.1) rx.2 (RwA.back s1 e1.1 rxs))
def tupF (fs : En → Mem → R (List W)) : En → Mem → R W := fun ρ m => (fs ρ m).bind fun xs m => .of m ((laidAll xs).map fun ys => .d (.tuple ys))
def lstF (fs : En → Mem → R (List W)) : En → Mem → R W := fun ρ m => (fs ρ m).bind fun xs m => .of m ((laidAll xs).map fun ys => .new ys)
theorem laidAll_length : ∀ {xs : List W} {ds : List PyData}, laidAll xs = some ds → xs.length = ds.length
  | [], _, h => by cases h; rfl
  | x :: xs, _, h => by
    unfold laidAll at h
    cases e1 : laid x with
    | none => simp only [e1] at h; cases h
    | some d =>
      cases e2 : laidAll xs with
      | none => simp only [e1, e2] at h; cases h
      | some ds => simp only [e1, e2] at h; cases h; rw [List.length_cons, List.length_cons, laidAll_length e2]
theorem snd_tup {es : List Expr} {k : Nat} {pos : Pos} {fs : En → Mem → R (List W)} (hs : PA Y.X es (rdA Y fs)) (hn : ∀ ρ m xs m', fs ρ m = .ok xs m' → xs.length ≤ LINE) : PE Y.X (.Tuple es k pos) (rdE Y (tupF fs)) :=
  (pe_tupZ hs).imp fun σ H Q ⟨ρ, m, g, s, e, h⟩ => by
    refine ⟨ρ, m, g, s, e, ?_⟩
    cases q : fs ρ m with
    | ok xs m1 =>
      have hl := hn ρ m xs m1 q
      have h : Pst Y (relW Y) g H σ (((fs ρ m)).bind fun xs m => .of m ((laidAll xs).map fun ys => .d (.tuple ys))) Q := h
      rw [q] at h
      intro vs H1 g1 s1 e1 rx
      have rx : RwA Y.X.K Y.X.w Y.sx g1 H H1 xs vs := rx
      have h1 : Pst Y (relW Y) g H σ (R.of m1 ((laidAll xs).map fun ys => W.d (.tuple ys))) Q := h
      cases q2 : laidAll xs with
      | none => rw [q2] at h1; exact h1.elim
      | some ds =>
        rw [q2] at h1
        have l1 := rx.length
        exact ⟨by rw [line_eq, ← l1]; exact hl, fun p o hp ho => Pst.newT h1 (ice_sr s1) (ice_ext e1) (ice_laidAll rx q2) (by rw [← l1]; exact hl) p o hp ho⟩
    | exc c m1 =>
      have h : Pst Y (relW Y) g H σ (((fs ρ m)).bind fun xs m => .of m ((laidAll xs).map fun ys => .d (.tuple ys))) Q := h
      rw [q] at h
      exact h
    | bad =>
      have h : Pst Y (relW Y) g H σ (((fs ρ m)).bind fun xs m => .of m ((laidAll xs).map fun ys => .d (.tuple ys))) Q := h
      rw [q] at h
      exact h
theorem snd_lst {es : List Expr} {pos : Pos} {fs : En → Mem → R (List W)} (hs : PA Y.X es (rdA Y fs)) (hn : ∀ ρ m xs m', fs ρ m = .ok xs m' → xs.length ≤ LINE) : PE Y.X (.List es pos) (rdE Y (lstF fs)) :=
  (pe_lst hs).imp fun σ H Q ⟨ρ, m, g, s, e, h⟩ => by
    refine ⟨ρ, m, g, s, e, ?_⟩
    have h : Pst Y (relW Y) g H σ (((fs ρ m)).bind fun xs m => .of m ((laidAll xs).map fun ys => .new ys)) Q := h
    cases q : fs ρ m with
    | ok xs m1 =>
      have hl := hn ρ m xs m1 q
      rw [q] at h
      intro vs H1 g1 s1 e1 rx
      have rx : RwA Y.X.K Y.X.w Y.sx g1 H H1 xs vs := rx
      have h1 : Pst Y (relW Y) g H σ (R.of m1 ((laidAll xs).map fun ys => W.new ys)) Q := h
      cases q2 : laidAll xs with
      | none => rw [q2] at h1; exact h1.elim
      | some ds =>
        rw [q2] at h1
        have l1 := rx.length
        exact ⟨by rw [line_eq, ← l1]; exact hl, fun p hp => Pst.newL h1 (ice_sr s1) (ice_ext e1) (ice_laidAll rx q2) (by rw [← l1]; exact hl) p hp⟩
    | exc c m1 => rw [q] at h; exact h
    | bad => rw [q] at h; exact h
/-! ### subscripts -/
theorem ixN_eq (n : Nat) (i : Int) : ixN n i = L2.ixN n i := rfl
theorem atI_rel {K : PySem.W.Frag} {w : World} {H : Hp} {fz : Addr → Prop} {ds : List PyData} {vs : List V} {i : Int} {d : PyData} (r : RpA K w H fz ds vs) (h : atI ds i = some d) : ∃ v, L2.atI vs i = some v ∧ Rp K w H fz d v := by
  unfold atI at h
  unfold L2.atI
  rw [← r.length]
  cases e : ixN ds.length i with
  | none => rw [e] at h; cases h
  | some j =>
    rw [e] at h
    have e' : L2.ixN ds.length i = some j := e
    rw [e']
    exact r.get h
theorem sOk_sign {x : Str} {c : Nat} (hx : sOk x) (hc : c ∈ x.cps.toList) : sOk ⟨#[c]⟩ := by
  have := hx.of_mem (l := [c]) (show 1 ≤ LINE by decide) (fun a h => by simp at h; rw [h]; exact hc)
  exact this
theorem atI_mem {α : Type} {xs : List α} {i : Int} {x : α} (h : atI xs i = some x) : x ∈ xs := by
  unfold atI at h
  cases e : ixN xs.length i with
  | none => rw [e] at h; cases h
  | some j => rw [e] at h; exact List.mem_of_getElem? h
theorem ixOk : IxR Y.X (rOp Y ixW) := by
  intro value slice pins s σ H v u vv uu Q I rv ru h hs
  obtain ⟨g, m, g0, H0, x, y, z, σ', S, E0, rx, ry, e, q⟩ := h
  unfold ixW at e
  split at e
  · rename_i xs i
    cases ea : atI xs i with
    | none => rw [ea] at e; cases e
    | some d =>
      rw [ea] at e
      cases e
      obtain ⟨a, vs, rfl, ha, _, r⟩ := Rp.tupI (show Rp _ _ _ _ (.tuple xs) v from rx)
      obtain rfl := Rp.intI (show Rp _ _ _ _ (.int i) u from ry)
      obtain ⟨w, ew, rw'⟩ := atI_rel r ea
      exact ix_tup value slice pins s σ H _ _ vv uu Q I rv ru ⟨a, vs, i, w, rfl, rfl, ha.sq, ew, q.doneV S E0 rw'⟩ hs
  · rename_i xs i
    cases ea : atI xs.cps.toList i with
    | none => rw [ea] at e; cases e
    | some c =>
      rw [ea] at e
      cases e
      obtain ⟨rfl, k⟩ := Rp.strI (show Rp _ _ _ _ (.str xs) v from rx)
      obtain rfl := Rp.intI (show Rp _ _ _ _ (.int i) u from ry)
      exact ix_str value slice pins s σ H _ _ vv uu Q I rv ru ⟨xs, i, c, rfl, rfl, by rw [line_eq]; exact k.1, ea, q.strD S E0 (sOk_sign k (atI_mem ea))⟩ hs
  · rename_i i _ _
    cases el : listR m x with
    | none => rw [el] at e; cases e
    | some xs =>
      rw [el] at e
      dsimp only at e
      cases ea : atI xs i with
      | none => rw [ea] at e; cases e
      | some d =>
        rw [ea] at e
        cases e
        obtain ⟨a, vs, rfl, ha, _, r⟩ := listR_at S rx el
        obtain rfl := Rp.intI (show Rp _ _ _ _ (.int i) u from ry)
        obtain ⟨w, ew, rw'⟩ := atI_rel r ea
        exact ix_list value slice pins s σ H _ _ vv uu Q I rv ru ⟨a, vs, i, w, rfl, rfl, ha, ew, q.doneV S E0 rw'⟩ hs
  · rename_i k
    cases el : dictR m x with
    | none => rw [el] at e; cases e
    | some kvs =>
      rw [el] at e
      dsimp only at e
      split at e
      · rename_i hk
        cases ea : lookS k kvs with
        | none => rw [ea] at e; cases e
        | some d =>
          rw [ea] at e
          cases e
          obtain ⟨p, ks, rfl, hp, _, r⟩ := dictR_at S rx el
          obtain ⟨rfl, _⟩ := Rp.strI (show Rp _ _ _ _ (.str k) u from ry)
          cases rv
          obtain ⟨t, rfl⟩ := ru
          obtain ⟨hsy, vs, kv, dd⟩ := dict_of I hp
          rcases look_rel k r hk with ⟨h1, _⟩ | ⟨d2, w, h1, h2, rw'⟩
          · rw [h1] at ea; cases ea
          · rw [h1] at ea
            cases ea
            obtain ⟨w', hw, rr⟩ := RelO.some_of (v := w) (o := valueAt vs (Sum.inr k)) (by rw [← h2]; exact kv.val (Sum.inr k))
            exact tail_any dd.typeIs slot_dict_getitem.lookup (wpAny_getItem_of (mixKind_str _ _ k t) dd.mapOf hw ⟨w, H, I.tok _, rr, q.doneV S E0 rw'⟩) hs
      · cases e
  · cases e
theorem snd_ix {a b : Expr} {pos : Pos} {fa fb : En → Mem → R W} (ha : PE Y.X a (rdE Y fa)) (hb : PE Y.X b (rdE Y fb)) (hs : PlainIx b) :
    PE Y.X (.Subscript a b pos) (rdE Y fun ρ m => (fa ρ m).bind fun x m => (fb ρ m).bind fun y m => .of m (ixW x y m)) :=
  (pe_ix ixOk ha hb hs).imp fun σ H Q h => rd_op h
/-! ### slices -/
/-- a slice's part -/
abbrev rdO (Y : Cy) (f : En → Mem → R (Option Int)) : TO := rd Y (fun _ _ _ x y => x = y) f
def partF (fs : En → Mem → R (List W)) : En → Mem → R (Option Int) := fun ρ m => (fs ρ m).bind fun l m => R.of m (intO l)
theorem sno_none : PO Y.X none (rdO Y (partF fun _ m => .ok [] m)) := ⟨fun pins s σ H Q I ⟨ρ, m, g, S, e, h⟩ => po_none.run pins s σ H Q I (h none H g S Ext0.refl rfl)⟩
theorem sno_some {e : Expr} {fa : En → Mem → R W} (ha : PE Y.X e (rdE Y fa)) : PO Y.X (some e) (rdO Y (partF (consF fa fun _ m => .ok [] m))) :=
  ⟨fun pins s σ H Q I ⟨ρ, m, g, S, E, h⟩ => (po_some ha).run pins s σ H Q I (by
    have h : Pst Y (fun _ _ _ x y => x = y) g H σ ((fa ρ m).bind fun x m => R.of m (intO [x])) Q := by
      have q : partF (consF fa fun _ m => .ok [] m) ρ m = (fa ρ m).bind fun x m => R.of m (intO [x]) := by
        unfold partF consF
        rw [bind_assoc]
        rfl
      rw [← q]
      exact h
    refine rd_step S E Ext0.refl h fun x m1 v H1 g1 s1 e1 rx E1 h1 => ?_
    cases q : intO [x] with
    | none => rw [q] at h1; exact h1.elim
    | some o =>
      rw [q] at h1
      unfold intO at q
      split at q
      · rename_i e; cases e
      · rename_i i e
        cases e
        cases q
        obtain rfl := Rp.intI (show Rp _ _ _ _ (.int i) v from rx.1)
        exact ⟨i, rfl, h1 (some i) H1 g1 s1 e1 rfl⟩
      · cases q)⟩
theorem cut_rel {K : PySem.W.Frag} {w : World} {H : Hp} {fz : Addr → Prop} {ds : List PyData} {vs : List V} (lo hi : Option Int) (r : RpA K w H fz ds vs) : RpA K w H fz (cut ds lo hi) (cutV vs lo hi) := by
  have e : cutV vs lo hi = (vs.drop (sIx vs.length 0 lo)).take (sIx vs.length vs.length hi - sIx vs.length 0 lo) := rfl
  rw [e, ← r.length]
  exact (r.drop _).take _
theorem cut_mem {α : Type} {xs : List α} {lo hi : Option Int} {x : α} (h : x ∈ cut xs lo hi) : x ∈ xs := List.mem_of_mem_drop (List.mem_of_mem_take h)
theorem cut_len {α : Type} (xs : List α) (lo hi : Option Int) : (cut xs lo hi).length ≤ xs.length := by
  unfold cut
  rw [List.length_take, List.length_drop]
  omega
theorem cutStr_eq (x : Str) (lo hi : Option Int) : cutStr x lo hi = cutS x lo hi := by
  unfold cutStr cut cutS
  rw [show x.cps.toList.length = x.length from Array.length_toList]
  rfl
theorem sOk_cut {x : Str} (hx : sOk x) (lo hi : Option Int) : sOk (cutStr x lo hi) :=
  hx.of_mem (Nat.le_trans (cut_len _ _ _) (by rw [Array.length_toList]; exact hx.1)) fun c hc => cut_mem hc
theorem cut_whole {α : Type} {xs : List α} {lo hi : Option Int} (h : HT.sIx xs.length 0 lo = 0 ∧ HT.sIx xs.length xs.length hi = xs.length) : cut xs lo hi = xs := by
  have h1 : sIx xs.length 0 lo = 0 := h.1
  have h2 : sIx xs.length xs.length hi = xs.length := h.2
  unfold cut
  rw [h1, h2, List.drop_zero, Nat.sub_zero, List.take_length]
def rSl (Y : Cy) : V → Option Int → Option Int → Hp → VK → Prop := fun v lo hi H Q =>
  ∃ g m g0 H0 x z σ, Sr Y.X.K Y.X.w g H m ∧ Ext0 g0 H0 g H ∧ Rw Y.X.K Y.X.w Y.sx g H x v ∧ slW x lo hi m = some z ∧ Pst Y (relW Y) g0 H0 σ (.ok z m) Q
theorem slOk : SlR Y.X (rSl Y) := by
  intro pins s σ H v vv vl vu lo hi sl Q I rv hs pl pu h
  obtain ⟨g, m, g0, H0, x, z, σ', S, E0, rx, e, q⟩ := h
  unfold slW at e
  split at e
  · rename_i xs
    cases e
    have rx' : Rp Y.X.K Y.X.w H g.fz (.tuple xs) v := rx
    obtain ⟨a, vs, rfl, ha, hz, r⟩ := Rp.tupI rx'
    refine sl_tupZ pins s σ H _ vv vl vu lo hi sl Q I rv hs pl pu ⟨a, vs, rfl, ha.sq, fun hw => ?_, fun _ p o hp ho => q.newT S E0 (cut_rel lo hi r) (Nat.le_trans (cutV_length _ _ _) hz) p o hp ho⟩
    rw [← r.length] at hw
    rw [cut_whole hw] at q
    exact q.sameT S E0 rx'
  · rename_i xs
    cases e
    obtain ⟨rfl, k⟩ := Rp.strI (show Rp _ _ _ _ (.str xs) v from rx)
    refine sl_str pins s σ H _ vv vl vu lo hi sl Q I rv hs pl pu ⟨xs, rfl, by rw [line_eq]; exact k.1, ?_⟩
    rw [← cutStr_eq]
    exact q.strD S E0 (sOk_cut k lo hi)
  · cases el : listR m x with
    | none => rw [el] at e; cases e
    | some xs =>
      rw [el] at e
      cases e
      obtain ⟨a, vs, rfl, ha, hz, r⟩ := listR_at S rx el
      exact sl_list pins s σ H _ vv vl vu lo hi sl Q I rv hs pl pu ⟨a, vs, rfl, ha, fun p hp => q.newL S E0 (cut_rel lo hi r) (Nat.le_trans (cutV_length _ _ _) hz) p hp⟩
def slF (fa : En → Mem → R W) (fl fh : En → Mem → R (Option Int)) : En → Mem → R W := fun ρ m => (fa ρ m).bind fun x m => (fl ρ m).bind fun l m => (fh ρ m).bind fun h m => .of m (slW x l h m)
theorem snd_sl {a : Expr} {lo hi : Option Expr} {p2 pos : Pos} {fa : En → Mem → R W} {fl fh : En → Mem → R (Option Int)} (ha : PE Y.X a (rdE Y fa)) (hl : PO Y.X lo (rdO Y fl)) (hh : PO Y.X hi (rdO Y fh)) :
    PE Y.X (.Subscript a (.Slice lo hi none p2) pos) (rdE Y (slF fa fl fh)) :=
  (pe_slice slOk ha hl hh).imp fun σ H Q ⟨ρ, m, g, s, e, h⟩ => rd_step s e Ext0.refl h fun x m1 v H1 g1 s1 e1 rx E1 h1 =>
    rd_step s1 E1 e1 h1 fun l m2 l' H2 g2 s2 e2 rl E2 h2 => rd_step s2 E2 (e1.trans s1 e2) h2 fun r m3 r' H3 g3 s3 e3 rr E3 h3 => by
      cases rl
      cases rr
      cases q : slW x l r m3 with
      | none => rw [q] at h3; exact h3.elim
      | some z =>
        rw [q] at h3
        exact ⟨g3, m3, g, H, x, z, σ, s3, (e1.trans s1 e2).trans s2 e3, (rx.1.keep s1 e2.1).keep s2 e3.1, q, h3⟩
end Lo
/-! Built-in functions. -/
namespace Lo
open PySem PySem.Spec PyProof.Rows L2
variable {Y : Cy}
/-! ### plain lists -/
section
variable {K : PySem.W.Frag} {w : World} {H : Hp} {fz : Addr → Prop}
theorem RpA.bls : ∀ {ds : List PyData} {vs : List V} {bs : List Bool}, RpA K w H fz ds vs → boolL ds = some bs → vs = bs.map V.bl
  | _, _, _, .nil, h => by cases h; rfl
  | .bool b :: ds, _, _, .cons r t, h => by
    unfold boolL at h
    cases e : boolL ds with
    | none => rw [e] at h; cases h
    | some bs => rw [e] at h; cases h; obtain rfl := r.boolI; rw [RpA.bls t e]; rfl
  | .none :: _, _, _, .cons _ _, h => by cases h
  | .int _ :: _, _, _, .cons _ _, h => by cases h
  | .str _ :: _, _, _, .cons _ _, h => by cases h
  | .tuple _ :: _, _, _, .cons _ _, h => by cases h
  | .list _ :: _, _, _, .cons _ _, h => by cases h
  | .dict _ :: _, _, _, .cons _ _, h => by cases h
theorem RpA.ints : ∀ {ds : List PyData} {vs : List V} {bs : List Int}, RpA K w H fz ds vs → intL ds = some bs → vs = bs.map V.int
  | _, _, _, .nil, h => by cases h; rfl
  | .int b :: ds, _, _, .cons r t, h => by
    unfold intL at h
    cases e : intL ds with
    | none => rw [e] at h; cases h
    | some bs => rw [e] at h; cases h; obtain rfl := r.intI; rw [RpA.ints t e]; rfl
  | .none :: _, _, _, .cons _ _, h => by cases h
  | .bool _ :: _, _, _, .cons _ _, h => by cases h
  | .str _ :: _, _, _, .cons _ _, h => by cases h
  | .tuple _ :: _, _, _, .cons _ _, h => by cases h
  | .list _ :: _, _, _, .cons _ _, h => by cases h
  | .dict _ :: _, _, _, .cons _ _, h => by cases h
theorem RpA.txts : ∀ {ds : List PyData} {vs : List V} {bs : List Str}, RpA K w H fz ds vs → strL ds = some bs → vs = bs.map V.str ∧ ∀ x ∈ bs, sOk x
  | _, _, _, .nil, h => by cases h; exact ⟨rfl, fun _ z => nomatch z⟩
  | .str b :: ds, _, _, .cons r t, h => by
    unfold strL at h
    cases e : strL ds with
    | none => rw [e] at h; cases h
    | some bs =>
      rw [e] at h; cases h
      obtain ⟨rfl, k⟩ := r.strI
      obtain ⟨e1, e2⟩ := RpA.txts t e
      rw [e1]
      exact ⟨rfl, fun x hx => (List.mem_cons.mp hx).elim (fun z => z ▸ k) (e2 x)⟩
  | .none :: _, _, _, .cons _ _, h => by cases h
  | .bool _ :: _, _, _, .cons _ _, h => by cases h
  | .int _ :: _, _, _, .cons _ _, h => by cases h
  | .tuple _ :: _, _, _, .cons _ _, h => by cases h
  | .list _ :: _, _, _, .cons _ _, h => by cases h
  | .dict _ :: _, _, _, .cons _ _, h => by cases h
theorem rpa_strs : ∀ {bs : List Str}, (∀ x ∈ bs, sOk x) → RpA K w H fz (bs.map .str) (bs.map V.str)
  | [], _ => .nil
  | _ :: _, h => .cons (.str (h _ List.mem_cons_self)) (rpa_strs fun x hx => h x (List.mem_cons_of_mem _ hx))
theorem strL_map : ∀ bs : List Str, strL (bs.map .str) = some bs
  | [] => rfl
  | b :: bs => by rw [List.map_cons, strL, strL_map bs]; rfl
theorem strL_eq : ∀ {ds : List PyData} {bs : List Str}, strL ds = some bs → ds = bs.map .str
  | [], _, h => by cases h; rfl
  | .str b :: ds, _, h => by
    unfold strL at h
    cases e : strL ds with
    | none => rw [e] at h; cases h
    | some bs => rw [e] at h; cases h; rw [strL_eq e]; rfl
  | .none :: _, _, h => by cases h
  | .bool _ :: _, _, h => by cases h
  | .int _ :: _, _, h => by cases h
  | .tuple _ :: _, _, h => by cases h
  | .list _ :: _, _, h => by cases h
  | .dict _ :: _, _, h => by cases h
end
theorem minOf_mem : ∀ (a : Int) (r : List Int), minOf a r ∈ a :: r
  | a, [] => List.mem_cons_self
  | a, b :: r => by
    rw [minOf]
    have h := minOf_mem (if b < a then b else a) r
    rcases List.mem_cons.mp h with h | h
    · rw [h]
      by_cases c : b < a
      · rw [if_pos c]; simp
      · rw [if_neg c]; simp
    · exact List.mem_cons_of_mem _ (List.mem_cons_of_mem _ h)
theorem minOf_le : ∀ (a : Int) (r : List Int), ∀ y ∈ a :: r, minOf a r ≤ y
  | a, [], y, h => by rw [minOf]; rcases List.mem_cons.mp h with h | h; exact Int.le_of_eq h.symm; cases h
  | a, b :: r, y, h => by
    rw [minOf]
    have ih := minOf_le (if b < a then b else a) r
    have h0 := ih _ List.mem_cons_self
    rcases List.mem_cons.mp h with h | h
    · subst h; by_cases c : b < y
      · rw [if_pos c] at h0 ⊢; omega
      · rw [if_neg c] at h0 ⊢; exact h0
    · rcases List.mem_cons.mp h with h | h
      · subst h; by_cases c : y < a
        · rw [if_pos c] at h0 ⊢; exact h0
        · rw [if_neg c] at h0 ⊢; omega
      · exact ih y (List.mem_cons_of_mem _ h)
/-! ### sorted texts -/
theorem strLe_iff {a b : Str} : strLe a b = true ↔ a.cps.toList ≤ b.cps.toList := by
  unfold strLe
  rw [ltCps_eq, Bool.not_eq_true', decide_eq_false_iff_not]
  exact Iff.rfl
theorem strLe_trans {a b c : Str} (h1 : strLe a b = true) (h2 : strLe b c = true) : strLe a c = true := by
  rw [strLe_iff] at *
  exact List.le_trans h1 h2
theorem strLe_total (a b : Str) : strLe a b = true ∨ strLe b a = true := by
  rw [strLe_iff, strLe_iff]
  exact List.le_total _ _
theorem strLe_anti {a b : Str} (h1 : strLe a b = true) (h2 : strLe b a = true) : a = b := by
  rw [strLe_iff] at *
  have e := List.le_antisymm h1 h2
  cases a; cases b
  simpa using e
theorem rising_pair : ∀ {p : Str} {l : List Str}, risingS p l = true → (p :: l).Pairwise fun a b => strLe a b = true
  | p, [], _ => List.pairwise_singleton _ _
  | p, x :: r, h => by
    have h' : (!ltCps x.cps.toList p.cps.toList && risingS x r) = true := h
    rw [Bool.and_eq_true] at h'
    have ih := rising_pair h'.2
    refine List.pairwise_cons.mpr ⟨fun y hy => ?_, ih⟩
    have hx : strLe p x = true := h'.1
    rcases List.mem_cons.mp hy with e | e
    · rw [e]; exact hx
    · exact strLe_trans hx (List.rel_of_pairwise_cons ih e)
theorem sortedS_pair {l : List Str} (h : sortedS l = true) : l.Pairwise fun a b => strLe a b = true := by
  cases l with
  | nil => exact .nil
  | cons x r => exact rising_pair h
theorem insertBy_perm {α : Type} (le : α → α → Bool) (x : α) : ∀ l : List α, (insertBy le x l).Perm (x :: l)
  | [] => .refl _
  | y :: r => by
    rw [insertBy]
    split
    · exact .refl _
    · exact ((insertBy_perm le x r).cons y).trans (.swap ..)
theorem sortBy_perm {α : Type} (le : α → α → Bool) : ∀ l : List α, (sortBy le l).Perm l
  | [] => .refl _
  | x :: r => (insertBy_perm le x _).trans ((sortBy_perm le r).cons x)
theorem insertBy_pair {x : Str} : ∀ {l : List Str}, l.Pairwise (fun a b => strLe a b = true) → (insertBy strLe x l).Pairwise fun a b => strLe a b = true
  | [], _ => List.pairwise_singleton _ _
  | y :: r, h => by
    rw [insertBy]
    split
    · rename_i c
      refine List.pairwise_cons.mpr ⟨fun z hz => ?_, h⟩
      rcases List.mem_cons.mp hz with e | e
      · rw [e]; exact c
      · exact strLe_trans c (List.rel_of_pairwise_cons h e)
    · rename_i c
      refine List.pairwise_cons.mpr ⟨fun z hz => ?_, insertBy_pair (List.pairwise_cons.mp h).2⟩
      have hz' := (insertBy_perm strLe x r).mem_iff.mp hz
      rcases List.mem_cons.mp hz' with e | e
      · rw [e]; exact (strLe_total x y).resolve_left c
      · exact List.rel_of_pairwise_cons h e
theorem sortBy_pair : ∀ l : List Str, (sortBy strLe l).Pairwise fun a b => strLe a b = true
  | [] => .nil
  | x :: r => insertBy_pair (sortBy_pair r)
theorem sorted_one {ys ss : List Str} (hp : ys.Perm ss) (hs : sortedS ys = true) : ys = sortBy strLe ss :=
  List.Perm.eq_of_pairwise (fun _ _ _ _ => strLe_anti) (sortedS_pair hs) (sortBy_pair ss) (hp.trans (sortBy_perm strLe ss).symm)
/-! ### stores into a dict -/
section
variable {K : PySem.W.Frag} {w : World} {H : Hp} {fz : Addr → Prop}
theorem isKey_eq {k : Str} {d : PyData} {key : Key} (r : KeyR d key) : isKey k d = decide (key = Sum.inr k) := by
  cases r with
  | str h =>
    rename_i x
    unfold isKey
    exact decide_eq_decide.mpr ⟨fun e => by rw [e], fun e => Sum.inr.inj e⟩
  | int i => unfold isKey; exact (decide_eq_false fun e => nomatch e).symm
theorem RpK.any (k : Str) : ∀ {kvs : List (PyData × PyData)} {ks : List (Key × V)}, RpK K w H fz kvs ks → (kvs.any fun p => isKey k p.1) = ks.any fun p => decide (p.1 = Sum.inr k)
  | _, _, .nil => rfl
  | _, _, .cons hk _ t => by rw [List.any_cons, List.any_cons, RpK.any k t]; congr 1; exact isKey_eq hk
theorem RpK.repl {k : Str} {d : PyData} {v : V} (r : Rp K w H fz d v) : ∀ {kvs : List (PyData × PyData)} {ks : List (Key × V)}, RpK K w H fz kvs ks →
    RpK K w H fz (kvs.map fun p => if isKey k p.1 then (p.1, d) else p) (ks.map fun p => if p.1 = Sum.inr k then (p.1, v) else p)
  | _, _, .nil => .nil
  | _, _, .cons (k := x) (key := key) hk h t => by
    rw [List.map_cons, List.map_cons]
    by_cases e : key = Sum.inr k
    · rw [if_pos (show isKey k x = true from (isKey_eq hk).trans (decide_eq_true e)), if_pos e]
      exact .cons hk r (RpK.repl r t)
    · rw [if_neg (show ¬ isKey k x = true by rw [isKey_eq hk, decide_eq_false e]; exact Bool.false_ne_true), if_neg e]
      exact .cons hk h (RpK.repl r t)
theorem RpK.append : ∀ {a b : List (PyData × PyData)} {u v : List (Key × V)}, RpK K w H fz a u → RpK K w H fz b v → RpK K w H fz (a ++ b) (u ++ v)
  | _, _, _, _, .nil, s => s
  | _, _, _, _, .cons k r t, s => .cons k r (RpK.append t s)
theorem RpK.store {k : Str} {d : PyData} {v : V} {kvs : List (PyData × PyData)} {ks : List (Key × V)} (h : RpK K w H fz kvs ks) (hk : sOk k) (r : Rp K w H fz d v) : RpK K w H fz (storeS k d kvs) (putK ks (Sum.inr k) v) := by
  unfold storeS putK
  rw [← h.any k]
  split
  · exact h.repl r
  · exact h.append (.cons (.str hk) r .nil)
/-- pairs to be stored -/
inductive RpP (K : PySem.W.Frag) (w : World) (H : Hp) (fz : Addr → Prop) : List (Str × PyData) → List (Key × V) → Prop
  | nil : RpP K w H fz [] []
  | cons {k : Str} {d : PyData} {v : V} {ps : List (Str × PyData)} {ks : List (Key × V)} : sOk k → Rp K w H fz d v → RpP K w H fz ps ks → RpP K w H fz ((k, d) :: ps) ((Sum.inr k, v) :: ks)
theorem RpP.merge : ∀ {ps : List (Str × PyData)} {ks : List (Key × V)} {acc : List (PyData × PyData)} {ka : List (Key × V)}, RpP K w H fz ps ks → RpK K w H fz acc ka →
    RpK K w H fz (ps.foldl (fun acc p => storeS p.1 p.2 acc) acc) (mergeK ka ks)
  | _, _, _, _, .nil, h => h
  | _, _, _, _, .cons hk r t, h => by
    have q := RpP.merge t (h.store hk r)
    exact q
theorem pairs_rel : ∀ {ds : List PyData} {vs : List V} {ps : List (Str × PyData)}, RpA K w H fz ds vs → pairsOf ds = some ps →
    ∃ (as : List Addr) (ks : List (Key × V)), vs = as.map V.ref ∧ RpP K w H fz ps ks ∧ Paired (fun p kv => TpAt K H p [kV kv.1, kv.2]) as ks
  | [], _, _, .nil, h => by cases h; exact ⟨[], [], rfl, .nil, .nil⟩
  | d :: ds, _, _, .cons r t, h => by
    unfold pairsOf at h
    split at h
    · rename_i q; cases q
    · rename_i k x r2 q
      cases q
      cases e : pairsOf ds with
      | none => rw [e] at h; cases h
      | some ps =>
        rw [e] at h
        cases h
        obtain ⟨as, ks, e1, e2, e3⟩ := pairs_rel t e
        obtain ⟨a, us, rfl, ha, _, ru⟩ := r.tupI
        cases ru with
        | cons r1 ru =>
          cases ru with
          | cons r2 ru =>
            cases ru
            obtain ⟨rfl, hk⟩ := r1.strI
            exact ⟨a :: as, (Sum.inr k, _) :: ks, by rw [e1]; rfl, .cons hk r2 e2, .cons ha e3⟩
    · cases h
theorem pairs_sq {as : List Addr} {ks : List (Key × V)} (h : Paired (fun p kv => TpAt K H p [kV kv.1, kv.2]) as ks) : Paired (fun p kv => SqT K H p [kV kv.1, kv.2]) as ks := by
  induction h with
  | nil => exact .nil
  | cons r _ ih => exact .cons r.sq ih
end
/-! ### calls of built-ins -/
def rCall (Y : Cy) (f : List W → Mem → Option W) : List V → Hp → VK → Prop := fun vs H Q =>
  ∃ g m g0 H0 xs z σ, Sr Y.X.K Y.X.w g H m ∧ Ext0 g0 H0 g H ∧ RwA Y.X.K Y.X.w Y.sx g H0 H xs vs ∧ f xs m = some z ∧ Pst Y (relW Y) g0 H0 σ (.ok z m) Q
/-- the arguments, then the call -/
theorem rd_args {fs : En → Mem → R (List W)} {f : List W → Mem → Option W} {σ : L2.St} {H : Hp} {Q : VK} (h : rdE Y (fun ρ m => (fs ρ m).bind fun xs m => .of m (f xs m)) σ H Q) : tCB (rCall Y f) (rdA Y fs) σ H Q := by
  obtain ⟨ρ, m, g, s, e, h⟩ := h
  refine rd_step s e Ext0.refl h fun xs m1 vs H1 g1 s1 e1 rx E1 h1 => ?_
  cases q : f xs m1 with
  | none => rw [q] at h1; exact h1.elim
  | some z =>
    rw [q] at h1
    exact ⟨g1, m1, g, H, xs, z, σ, s1, e1, rx, q, h1⟩
section
variable {K : PySem.W.Frag} {w : World} {sx : Option (Addr × Nat)} {g : Gm} {H0 H : Hp}
theorem RwA.nilI {vs : List V} (h : RwA K w sx g H0 H [] vs) : vs = [] := by cases h; rfl
theorem RwA.oneI {x : W} {vs : List V} (h : RwA K w sx g H0 H [x] vs) : ∃ v, vs = [v] ∧ Rw K w sx g H x v ∧ Fresh H0 x v := by
  cases h with
  | cons a b c => cases c; exact ⟨_, rfl, a, b⟩
theorem RwA.twoI {x y : W} {vs : List V} (h : RwA K w sx g H0 H [x, y] vs) : ∃ v u, vs = [v, u] ∧ Rw K w sx g H x v ∧ Rw K w sx g H y u := by
  cases h with
  | cons a _ c =>
    cases c with
    | cons a' _ c => cases c; exact ⟨_, _, rfl, a, a'⟩
end
def biV : Bi → Value
  | .len => .builtin "len" | .all => .builtin "all" | .any => .builtin "any" | .sum => .builtin "sum" | .minl => .builtin "min" | .min2 => .builtin "min" | .max2 => .builtin "max"
  | .sorted => .builtin "sorted" | .tup => .type "tuple" | .lst => .type "list" | .dct => .type "dict" | .int => .type "int" | .str => .type "str" | .repr => .builtin "repr"
theorem bi_len : CallR Y.X (biV .len) (rCall Y (biW .len)) := by
  intro pins s σ H vs us Q I rv ⟨g, m, g0, H0, xs, z, σ', S, E0, rx, e0, q⟩
  have fin : ∀ w, xs = [w] → (match listR m w with | some xs => some (W.d (.int xs.length)) | none => match dictR m w with | some kvs => some (.d (.int kvs.length)) | none => none) = some z →
      wpAny (model Y.X.prog Y.X.w) Y.X.A (call (biV .len) us) (EP Y.X pins σ Q) Y.X.xe s := fun w ew e => by
    subst ew
    obtain ⟨v, rfl, rx, _⟩ := rx.oneI
    cases el : listR m w with
    | some ds =>
      rw [el] at e
      cases e
      obtain ⟨a, vs, rfl, ha, _, r⟩ := listR_at S rx el
      rw [r.length] at q
      exact call_len pins s σ H _ us Q I rv ⟨.ref a, vs.length, rfl, .inl ⟨vs, ha, rfl⟩, q.intD S E0⟩
    | none =>
      rw [el] at e
      dsimp only at e
      cases ed : dictR m w with
      | none => rw [ed] at e; cases e
      | some kvs =>
        rw [ed] at e
        cases e
        obtain ⟨a, ks, rfl, ha, hz, r⟩ := dictR_at S rx ed
        obtain ⟨hs, ws, kv, dd⟩ := dict_of I ha
        obtain ⟨u, rfl, ru⟩ := vals1 rv
        cases ru
        have l1 := r.length
        have l2 := kv.length
        have hl : LINE = 16777216 := rfl
        refine call_len_dict hs dd (by omega) ?_
        refine ⟨.int (kvs.length : Nat), H, I.tok _, ⟨_, by rw [← l2, ← l1]⟩, q.intD S E0⟩
  unfold biW at e0
  split at e0 <;> first | (rename_i q0; cases q0; done) | skip
  · rename_i x _
    cases e0
    obtain ⟨v, rfl, rx, _⟩ := rx.oneI
    obtain ⟨rfl, k⟩ := Rp.strI (show Rp _ _ _ _ (.str x) v from rx)
    exact call_len pins s σ H _ us Q I rv ⟨.str x, x.length, rfl, ⟨by rw [line_eq]; exact k.1, rfl⟩, q.intD S E0⟩
  · rename_i ds _
    cases e0
    obtain ⟨v, rfl, rx, _⟩ := rx.oneI
    obtain ⟨a, vs, rfl, ha, _, r⟩ := Rp.tupI (show Rp _ _ _ _ (.tuple ds) v from rx)
    rw [r.length] at q
    exact call_len pins s σ H _ us Q I rv ⟨.ref a, vs.length, rfl, .inr ⟨vs, ha.sq, rfl⟩, q.intD S E0⟩
  · exact fin _ rfl e0
  · cases e0
end Lo
/-! Built-in functions, the others. -/
namespace Lo
open PySem PySem.Spec PyProof.Rows L2
variable {Y : Cy}
theorem SqL.of {K : PySem.W.Frag} {H : Hp} {a : Addr} {xs : List V} (h : H a = some (.lst xs)) : SqL K H a xs := .inl (.inl h)
theorem bi_all (C : Y.X.calm = true) : CallR Y.X (biV .all) (rCall Y (biW .all)) := by
  intro pins s σ H vs us Q I rv ⟨g, m, g0, H0, xs, z, σ', S, E0, rx, e, q⟩
  unfold biW at e
  split at e <;> first | (rename_i q0; cases q0; done) | (cases e; done) | skip
  rename_i w _
  cases el : listOf m w with
  | none => rw [el] at e; cases e
  | some ds =>
    rw [el, Option.bind_some] at e
    cases eb : boolL ds with
    | none => rw [eb] at e; cases e
    | some bs =>
      rw [eb] at e
      cases e
      obtain ⟨v, rfl, rx, _⟩ := rx.oneI
      obtain ⟨a, vs, rfl, ha, _, r⟩ := list_at S rx el
      rw [r.bls eb] at ha
      exact cr_all C pins s σ H _ us Q I rv ⟨a, bs, rfl, SqL.of ha, q.blD S E0⟩
theorem bi_any (C : Y.X.calm = true) : CallR Y.X (biV .any) (rCall Y (biW .any)) := by
  intro pins s σ H vs us Q I rv ⟨g, m, g0, H0, xs, z, σ', S, E0, rx, e, q⟩
  unfold biW at e
  split at e <;> first | (rename_i q0; cases q0; done) | (cases e; done) | skip
  rename_i w _
  cases el : listOf m w with
  | none => rw [el] at e; cases e
  | some ds =>
    rw [el, Option.bind_some] at e
    cases eb : boolL ds with
    | none => rw [eb] at e; cases e
    | some bs =>
      rw [eb] at e
      cases e
      obtain ⟨v, rfl, rx, _⟩ := rx.oneI
      obtain ⟨a, vs, rfl, ha, _, r⟩ := list_at S rx el
      rw [r.bls eb] at ha
      exact cr_any C pins s σ H _ us Q I rv ⟨a, bs, rfl, SqL.of ha, q.blD S E0⟩
theorem bi_sum (C : Y.X.calm = true) : CallR Y.X (biV .sum) (rCall Y (biW .sum)) := by
  intro pins s σ H vs us Q I rv ⟨g, m, g0, H0, xs, z, σ', S, E0, rx, e, q⟩
  unfold biW at e
  split at e <;> first | (rename_i q0; cases q0; done) | (cases e; done) | skip
  rename_i w _
  cases el : listOf m w with
  | none => rw [el] at e; cases e
  | some ds =>
    rw [el, Option.bind_some] at e
    cases eb : intL ds with
    | none => rw [eb] at e; cases e
    | some bs =>
      rw [eb] at e
      cases e
      obtain ⟨v, rfl, rx, _⟩ := rx.oneI
      obtain ⟨a, vs, rfl, ha, _, r⟩ := list_at S rx el
      rw [r.ints eb] at ha
      exact cr_sum C pins s σ H _ us Q I rv ⟨a, bs, rfl, SqL.of ha, q.intD S E0⟩
theorem bi_minl (C : Y.X.calm = true) : CallR Y.X (biV .minl) (rCall Y (biW .minl)) := by
  intro pins s σ H vs us Q I rv ⟨g, m, g0, H0, xs, z, σ', S, E0, rx, e, q⟩
  unfold biW at e
  split at e <;> first | (rename_i q0; cases q0; done) | (cases e; done) | skip
  rename_i w _
  cases el : listOf m w with
  | none => rw [el] at e; cases e
  | some ds =>
    rw [el, Option.bind_some] at e
    cases eb : intL ds with
    | none => rw [eb] at e; cases e
    | some bs =>
      rw [eb] at e
      cases bs with
      | nil => cases e
      | cons b bs =>
        cases e
        obtain ⟨v, rfl, rx, _⟩ := rx.oneI
        obtain ⟨a, vs, rfl, ha, _, r⟩ := list_at S rx el
        rw [r.ints eb] at ha
        refine cr_min C pins s σ H _ us Q I rv ⟨a, b :: bs, rfl, SqL.of ha, Nat.succ_pos _, fun k hk hle => ?_⟩
        have h1 := hle _ (minOf_mem b bs)
        have h2 := minOf_le b bs k hk
        rw [show k = minOf b bs by omega]
        exact q.intD S E0
theorem bi_min2 (C : Y.X.calm = true) : CallR Y.X (biV .min2) (rCall Y (biW .min2)) := by
  intro pins s σ H vs us Q I rv ⟨g, m, g0, H0, xs, z, σ', S, E0, rx, e, q⟩
  unfold biW at e
  split at e <;> first | (rename_i q0; cases q0; done) | (cases e; done) | skip
  rename_i i j _
  cases e
  obtain ⟨v, u, rfl, r1, r2⟩ := rx.twoI
  obtain rfl := Rp.intI (show Rp _ _ _ _ (.int i) v from r1)
  obtain rfl := Rp.intI (show Rp _ _ _ _ (.int j) u from r2)
  exact call_min2 C pins s σ H _ us Q I rv ⟨i, j, rfl, q.intD S E0⟩
theorem bi_max2 (C : Y.X.calm = true) : CallR Y.X (biV .max2) (rCall Y (biW .max2)) := by
  intro pins s σ H vs us Q I rv ⟨g, m, g0, H0, xs, z, σ', S, E0, rx, e, q⟩
  unfold biW at e
  split at e <;> first | (rename_i q0; cases q0; done) | (cases e; done) | skip
  rename_i i j _
  cases e
  obtain ⟨v, u, rfl, r1, r2⟩ := rx.twoI
  obtain rfl := Rp.intI (show Rp _ _ _ _ (.int i) v from r1)
  obtain rfl := Rp.intI (show Rp _ _ _ _ (.int j) u from r2)
  exact call_max2 C pins s σ H _ us Q I rv ⟨i, j, rfl, q.intD S E0⟩
theorem bi_int : CallR Y.X (biV .int) (rCall Y (biW .int)) := by
  intro pins s σ H vs us Q I rv ⟨g, m, g0, H0, xs, z, σ', S, E0, rx, e, q⟩
  unfold biW at e
  split at e <;> first | (rename_i q0; cases q0; done) | (cases e; done) | skip
  · rename_i i _
    cases e
    obtain ⟨v, rfl, rx, _⟩ := rx.oneI
    obtain rfl := Rp.intI (show Rp _ _ _ _ (.int i) v from rx)
    exact call_int1 pins s σ H _ us Q I rv (.inl ⟨i, rfl, q.intD S E0⟩)
  · rename_i b _
    cases e
    obtain ⟨v, rfl, rx, _⟩ := rx.oneI
    obtain rfl := Rp.boolI (show Rp _ _ _ _ (.bool b) v from rx)
    exact call_int1 pins s σ H _ us Q I rv (.inr ⟨b, rfl, q.intD S E0⟩)
theorem char_lt (c : Char) : c.toNat < 1114112 := by
  have h := c.valid
  rcases h with h | h
  · exact Nat.lt_trans h (by decide)
  · exact h.2
theorem sOk_string {s : String} (h : s.toList.length ≤ LINE) : sOk (Str.ofString s) := by
  rw [Str.ofString_eq_toList]
  refine ⟨?_, ?_⟩
  · show (s.toList.map Char.toNat).toArray.size ≤ LINE
    rw [List.size_toArray, List.length_map]
    exact h
  · show (s.toList.map Char.toNat).toArray.all _ = true
    rw [List.all_toArray, List.all_eq_true]
    intro c hc
    obtain ⟨a, _, rfl⟩ := List.mem_map.mp hc
    exact decide_eq_true (char_lt a)
theorem repr_len {n : Nat} (h : n.log2 < 1920) : n.repr.toList.length ≤ 1920 := by
  rw [Nat.toList_repr, Nat.length_toDigits_le_iff (by decide) (by decide)]
  have h1 : n < 2 ^ 1920 := by
    by_cases h0 : n = 0
    · rw [h0]; exact Nat.pow_pos (by decide)
    · exact (Nat.log2_lt h0).mp h
  exact Nat.lt_of_lt_of_le h1 (Nat.pow_le_pow_left (show 2 ≤ 10 by decide) _)
theorem sOk_intStr {i : Int} (h : i.natAbs.log2 < 1920) : sOk (toString i) := by
  refine sOk_string ?_
  have hL : LINE = 16777216 := rfl
  show i.repr.toList.length ≤ LINE
  rw [Int.repr_eq_if]
  split
  · have h1 : i.toNat.log2 < 1920 := by rw [show i.toNat = i.natAbs by omega]; exact h
    have := repr_len h1
    omega
  · have h1 : (-i).toNat.log2 < 1920 := by rw [show (-i).toNat = i.natAbs by omega]; exact h
    have := repr_len h1
    rw [String.toList_append, List.length_append]
    have : ("-" : String).toList.length = 1 := rfl
    omega
theorem bi_str : CallR Y.X (biV .str) (rCall Y (biW .str)) := by
  intro pins s σ H vs us Q I rv ⟨g, m, g0, H0, xs, z, σ', S, E0, rx, e, q⟩
  unfold biW at e
  split at e <;> first | (rename_i q0; cases q0; done) | (cases e; done) | skip
  rename_i i _
  split at e
  · rename_i hz
    cases e
    obtain ⟨v, rfl, rx, _⟩ := rx.oneI
    obtain rfl := Rp.intI (show Rp _ _ _ _ (.int i) v from rx)
    exact call_str_int pins s σ H _ us Q I rv ⟨i, rfl, hz, q.strD S E0 (sOk_intStr hz)⟩
  · cases e
theorem bi_tup : CallR Y.X (biV .tup) (rCall Y (biW .tup)) := by
  intro pins s σ H vs us Q I rv ⟨g, m, g0, H0, xs, z, σ', S, E0, rx, e, q⟩
  unfold biW at e
  split at e <;> first | (rename_i q0; cases q0; done) | (cases e; done) | skip
  · rename_i ds _
    cases e
    obtain ⟨v, rfl, rx, _⟩ := rx.oneI
    have rx' : Rp Y.X.K Y.X.w H g.fz (.tuple ds) v := rx
    obtain ⟨a, vs, rfl, ha, _, r⟩ := rx'.tupI
    exact call_tuple_ofZ pins s σ H _ us Q I rv ⟨a, vs, rfl, .inr ⟨ha.sq, q.sameT S E0 rx'⟩⟩
  · rename_i w _ _
    cases el : listR m w with
    | none => rw [el] at e; cases e
    | some ds =>
      rw [el] at e
      cases e
      obtain ⟨v, rfl, rx, _⟩ := rx.oneI
      obtain ⟨a, vs, rfl, ha, hz, r⟩ := listR_at S rx el
      exact call_tuple_ofZ pins s σ H _ us Q I rv ⟨a, vs, rfl, .inl ⟨ha, fun l o hl ho => q.newT S E0 r hz l o hl ho⟩⟩
theorem bi_lst : CallR Y.X (biV .lst) (rCall Y (biW .lst)) := by
  intro pins s σ H vs us Q I rv ⟨g, m, g0, H0, xs, z, σ', S, E0, rx, e, q⟩
  unfold biW at e
  split at e <;> first | (rename_i q0; cases q0; done) | (cases e; done) | skip
  · rename_i ds _
    cases e
    obtain ⟨v, rfl, rx, _⟩ := rx.oneI
    obtain ⟨a, vs, rfl, ha, hz, r⟩ := Rp.tupI (show Rp Y.X.K Y.X.w H g.fz (.tuple ds) v from rx)
    exact call_list_of pins s σ H _ us Q I rv ⟨a, vs, rfl, .inr ha.sq, fun l hl => q.newL S E0 r hz l hl⟩
  · rename_i w _ _
    cases el : listR m w with
    | none => rw [el] at e; cases e
    | some ds =>
      rw [el] at e
      cases e
      obtain ⟨v, rfl, rx, _⟩ := rx.oneI
      obtain ⟨a, vs, rfl, ha, hz, r⟩ := listR_at S rx el
      exact call_list_of pins s σ H _ us Q I rv ⟨a, vs, rfl, .inl ha, fun l hl => q.newL S E0 r hz l hl⟩
/-- a new dict -/
theorem Pst.newD {g g0 : Gm} {H H0 : Hp} {m : Mem} {σ : L2.St} {Q : V → Hp → Prop} {kvs : List (PyData × PyData)} {ks : List (Key × V)} (h : Pst Y (relW Y) g0 H0 σ (.ok (.newd kvs) m) Q) (s : Sr Y.X.K Y.X.w g H m) (x : Ext0 g0 H0 g H) (r : RpK Y.X.K Y.X.w H g.fz kvs ks) (z : ks.length ≤ LINE) (p : Addr) (hp : H p = none) :
    Q (.ref p) (upd H p (.dK ks)) :=
  h.done (s.new hp) (x.trans s (Ext0.new hp)) ⟨p, ks, rfl, upd_same, z, r.keep ((Ext0.new (g := g) hp).1.keeps s), fun f => s.fzs p f hp, fun q => s.isS q hp⟩ fun a e => by
    cases e; exact x.1.none_of s hp
theorem seqOf_at {K : PySem.W.Frag} {w : World} {sx : Option (Addr × Nat)} {g : Gm} {H : Hp} {m : Mem} {x : W} {v : V} {ds : List PyData} (S : Sr K w g H m) (r : Rw K w sx g H x v) (h : seqOf m x = some ds) :
    ∃ a vs, v = .ref a ∧ (SqL K H a vs ∨ TpAt K H a vs) ∧ vs.length ≤ LINE ∧ RpA K w H g.fz ds vs := by
  unfold seqOf at h
  split at h
  · cases h
    obtain ⟨a, vs, rfl, ha, hz, r⟩ := Rp.tupI (show Rp K w H g.fz (.tuple ds) v from r)
    exact ⟨a, vs, rfl, .inr ha, hz, r⟩
  · obtain ⟨a, vs, rfl, ha, hz, r⟩ := listR_at S r h
    exact ⟨a, vs, rfl, .inl ha, hz, r⟩
theorem paired_len {α β : Type} {F : α → β → Prop} {as : List α} {bs : List β} (h : Paired F as bs) : as.length = bs.length := Paired.length h
theorem bi_dct (C : Y.X.calm = true) : CallR Y.X (biV .dct) (rCall Y (biW .dct)) := by
  intro pins s σ H vs us Q I rv ⟨g, m, g0, H0, xs, z, σ', S, E0, rx, e, q⟩
  unfold biW at e
  split at e <;> first | (rename_i q0; cases q0; done) | (cases e; done) | skip
  rename_i w _
  cases el : seqOf m w with
  | none => rw [el] at e; cases e
  | some ds =>
    rw [el] at e
    dsimp only at e
    cases ep : pairsOf ds with
    | none => rw [ep] at e; cases e
    | some ps =>
      rw [ep] at e
      cases e
      obtain ⟨v, rfl, rx, _⟩ := rx.oneI
      obtain ⟨a, vs, rfl, ha, hz, r⟩ := seqOf_at S rx el
      obtain ⟨as, ks, rfl, rp, pp⟩ := pairs_rel r ep
      have rk : RpK Y.X.K Y.X.w H g.fz (ps.foldl (fun acc p => storeS p.1 p.2 acc) []) (mergeK [] ks) := rp.merge .nil
      have hl := paired_len pp
      rw [List.length_map] at hz
      have hlen : (mergeK [] ks).length ≤ LINE := by
        have := length_mergeK ks []
        rw [List.length_nil] at this
        omega
      rcases ha with ha | ha
      · exact call_dictP C pins s σ H _ us Q I rv ⟨a, as, ks, rfl, ha, pairs_sq pp, fun p hp => q.newD S E0 rk hlen p hp⟩
      · obtain ⟨u, rfl, ru⟩ := vals1 rv
        cases ru
        obtain ⟨its, rt, pl⟩ := ha.plain I
        have ei := refs_at rt
        subst ei
        obtain ⟨prs, rel, hl2, hpr⟩ := L2.pairs_of I (pairs_sq pp)
        have hkey : ∀ j (hj : j < prs.length), ∃ u, IsTup s.heap (as.getD j 0) #[u, prs[j].2] ∧ keyIs prs[j].1 u = true := fun j hj => by
          obtain ⟨b, u, e1, e2, e3⟩ := hpr j prs[j] (List.getElem?_eq_getElem hj)
          exact ⟨u, by rw [List.getD_eq_getElem?_getD, e1]; exact e2, e3⟩
        let ku : Nat → Value := fun j => if hj : j < prs.length then (hkey j hj).choose else .none
        let qs : List (Value × Value) := (List.range prs.length).map fun j => (ku j, (prs[j]?.map Prod.snd).getD .none)
        have hqs : qs.length = prs.length := by simp [qs]
        have hq : ∀ j k v, qs[j]? = some (k, v) → ∃ hj : j < prs.length, k = (hkey j hj).choose ∧ v = prs[j].2 := fun j k v e => by
          have hj : j < prs.length := by rw [← hqs]; exact (List.getElem?_eq_some_iff.mp e).1
          refine ⟨hj, ?_⟩
          simp only [qs, List.getElem?_map, List.getElem?_range hj, Option.map_some, List.getElem?_eq_getElem hj, Option.getD_some, ku, dif_pos hj] at e
          cases e
          exact ⟨rfl, rfl⟩
        refine call_dict_pairs (knd := mixKind Y.X.prog Y.X.w) (kvs := prs) (PairArg.tuple a (as.map Value.ref).toArray (fun j => as.getD j 0) qs) (I.ok.hd C) ⟨pl, ?_, fun j k v e => ?_⟩ ⟨hqs.symm, fun j k v e => ?_⟩ (by rw [hqs, hl2, line_eq]; exact hz) fun h' tk hd' k => ?_
        · rw [List.size_toArray, List.length_map, hqs, hl2]
        · obtain ⟨hj, rfl, rfl⟩ := hq j k v e
          have hja : j < as.length := by omega
          refine ⟨?_, .inl (hkey j hj).choose_spec.1⟩
          rw [List.getElem?_toArray, List.getElem?_map, List.getElem?_eq_getElem hja]
          show some (Value.ref as[j]) = some (Value.ref (as.getD j 0))
          rw [List.getD_eq_getElem?_getD, List.getElem?_eq_getElem hja]
          rfl
        · obtain ⟨hj, rfl, rfl⟩ := hq j k v e
          exact ⟨prs[j].1, by rw [List.getElem?_eq_getElem hj], (hkey j hj).choose_spec.2⟩
        · have hm : (s.heap.objs.size == sysModules) = false := beq_eq_false_iff_ne.mpr (Nat.ne_of_gt I.big)
          have k' : ∀ b o, s.heap.get? b = some o → h'.get? b = some o := fun b o e => k b o (fun z => nomatch z) e
          exact ⟨.ref s.heap.objs.size, upd H s.heap.objs.size (.dK (mergeK [] ks)), I.laid (t' := tk) k' (Nat.le_refl _) (show ObjOk Y.X.prog Y.X.w _ _ _ (.dK (mergeK [] ks)) from ⟨by rw [line_eq]; exact hlen, hm, merged [] prs, KV.merge rel .nil, hd'⟩), rfl, q.newD S E0 rk hlen _ (I.hok.fresh (Nat.le_refl _))⟩
/-! ### sorted, repr -/
theorem keys_strs {K : PySem.W.Frag} {w : World} {H : Hp} {fz : Addr → Prop} : ∀ {kvs : List (PyData × PyData)} {ks : List (Key × V)} {ss : List Str}, RpK K w H fz kvs ks → strL (kvs.map fun p => p.1) = some ss →
    ks.map (·.1) = ss.map Sum.inr ∧ ∀ x ∈ ss, sOk x
  | _, _, _, .nil, h => by cases h; exact ⟨rfl, fun _ z => nomatch z⟩
  | _, _, _, .cons (ds := ds) hk _ t, h => by
    cases hk with
    | int i => cases h
    | str hx =>
      rename_i x
      rw [List.map_cons] at h
      unfold strL at h
      cases e : strL (ds.map fun p => p.1) with
      | none => simp only [e] at h; cases h
      | some bs =>
        simp only [e] at h
        cases h
        obtain ⟨e1, e2⟩ := keys_strs t e
        exact ⟨by rw [List.map_cons, List.map_cons, e1], fun y hy => (List.mem_cons.mp hy).elim (fun z => z ▸ hx) (e2 y)⟩
theorem bi_sorted (C : Y.X.calm = true) : CallR Y.X (biV .sorted) (rCall Y (biW .sorted)) := by
  intro pins s σ H vs us Q I rv ⟨g, m, g0, H0, xs, z, σ', S, E0, rx, e, q⟩
  unfold biW at e
  split at e <;> first | (rename_i q0; cases q0; done) | (cases e; done) | skip
  rename_i w _
  obtain ⟨v, rfl, rx, _⟩ := rx.oneI
  have fin : ∀ ss : List Str, (∀ x ∈ ss, sOk x) → ss.length < 64 → z = .new ((sortBy strLe ss).map .str) → ∀ ys p, ys.Perm ss → sortedS ys = true → H p = none → Q (.ref p) (upd H p (.lst (ys.map V.str))) := fun ss hk hl ez ys p h1 h2 hp => by
    subst ez
    rw [sorted_one h1 h2]
    refine q.newL S E0 (rpa_strs fun x hx => hk x ((sortBy_perm strLe ss).mem_iff.mp hx)) ?_ p hp
    rw [List.length_map, (sortBy_perm strLe ss).length_eq]
    exact Nat.le_trans (Nat.le_of_lt hl) (by decide)
  unfold sortArg at e
  cases el : listR m w with
  | some ds =>
    rw [el] at e
    dsimp only at e
    cases es : strL ds with
    | none => rw [es] at e; cases e
    | some ss =>
      rw [es] at e
      dsimp only at e
      split at e
      · rename_i hl
        cases e
        obtain ⟨a, vs, rfl, ha, _, r⟩ := listR_at S rx el
        obtain ⟨rfl, hk⟩ := r.txts es
        exact cr_sortedS pins s σ H _ us Q I rv ⟨a, ss, rfl, ha, hl, fin ss hk hl rfl⟩
      · cases e
  | none =>
    rw [el] at e
    cases ed : dictOf m w with
    | none => rw [ed] at e; cases e
    | some kvs =>
      rw [ed] at e
      dsimp only [Option.map_some] at e
      cases es : strL (kvs.map fun p => p.1) with
      | none => rw [es] at e; cases e
      | some ss =>
        rw [es] at e
        dsimp only at e
        split at e
        · rename_i hl
          cases e
          obtain ⟨a, ks, rfl, ha, _, r⟩ := dict_at S rx ed
          obtain ⟨e1, hk⟩ := keys_strs r es
          exact call_sortedD C pins s σ H _ us Q I rv ⟨a, ks, ss, rfl, .inl ha, e1, hl, fin ss hk hl rfl⟩
        · cases e
end Lo
/-! repr, minus, steps of slices, turned about. -/
namespace Lo
open PySem PySem.Spec PyProof.Rows L2
variable {Y : Cy}
/-- all signs are signs -/
def Sg (x : Str) : Prop := ∀ c ∈ x.cps.toList, c < 1114112
theorem sg_iff {x : Str} : PyData.strOk x = true ↔ Sg x := by
  unfold PyData.strOk Sg
  rw [← Array.all_toList, List.all_eq_true]
  exact ⟨fun h c hc => of_decide_eq_true (h c hc), fun h c hc => decide_eq_true (h c hc)⟩
theorem Sg.app {a b : Str} (ha : Sg a) (hb : Sg b) : Sg (a ++ b) := fun c hc => by
  have e : (a ++ b).cps.toList = a.cps.toList ++ b.cps.toList := by show (a.cps ++ b.cps).toList = _; simp
  rw [e] at hc
  exact (List.mem_append.mp hc).elim (ha c) (hb c)
theorem sg_string (s : String) : Sg (Str.ofString s) := fun c hc => by
  rw [Str.ofString_eq_toList] at hc
  have hc : c ∈ s.toList.map Char.toNat := by simpa using hc
  obtain ⟨a, _, rfl⟩ := List.mem_map.mp hc
  exact char_lt a
theorem sg_join (z : Str) (hz : Sg z) : ∀ (xs : List Str), (∀ x ∈ xs, Sg x) → Sg (Str.join z xs)
  | [], _ => sg_string ""
  | [x], h => h x List.mem_cons_self
  | x :: y :: r, h => ((h x List.mem_cons_self).app hz).app (sg_join z hz (y :: r) fun u hu => h u (List.mem_cons_of_mem _ hu))
theorem sg_from : ∀ (ts : List Str) (k : Nat) (acc : Str), Sg acc → (∀ x ∈ ts, Sg x) → Sg (textFrom k acc ts)
  | [], _, _, h, _ => h
  | t :: ts, k, acc, h, ht => sg_from ts (k + 1) _ ((h.app (sg_string _)).app (ht t List.mem_cons_self)) fun u hu => ht u (List.mem_cons_of_mem _ hu)
theorem sg_quote (x : Str) : reprQuote x < 1114112 := by
  unfold reprQuote
  split <;> decide
theorem sg_char {q c : Nat} (hq : q < 1114112) (hc : c < 1114112) : ∀ d ∈ Builtin.Str.reprChar q c, d < 1114112 := by
  have hex : ∀ width, ∀ d ∈ List.replicate (width - ((Nat.toDigits 16 c).map Char.toNat).length) 48 ++ (Nat.toDigits 16 c).map Char.toNat, d < 1114112 := fun width d hd => by
    rcases List.mem_append.mp hd with h | h
    · rw [(List.mem_replicate.mp h).2]; decide
    · obtain ⟨a, _, rfl⟩ := List.mem_map.mp h
      exact char_lt a
  intro d hd
  unfold Builtin.Str.reprChar at hd
  dsimp only at hd
  repeat' split at hd
  all_goals first
    | (simp only [List.mem_cons, List.not_mem_nil, or_false] at hd; omega)
    | (rcases List.mem_append.mp hd with h | h
       · simp only [List.mem_cons, List.not_mem_nil, or_false] at h; omega
       · exact hex _ d h)
theorem sg_fold {q : Nat} (hq : q < 1114112) : ∀ (l : List Nat) (acc : Array Nat), (∀ c ∈ l, c < 1114112) → (∀ c ∈ acc.toList, c < 1114112) → ∀ c ∈ (l.foldl (fun out c => out ++ (Builtin.Str.reprChar q c).toArray) acc).toList, c < 1114112
  | [], _, _, h => h
  | x :: l, acc, hl, h => sg_fold hq l _ (fun c hc => hl c (List.mem_cons_of_mem _ hc)) fun c hc => by
    rw [Array.toList_append, List.mem_append] at hc
    rcases hc with hc | hc
    · exact h c hc
    · exact sg_char hq (hl x List.mem_cons_self) c (by simpa using hc)
theorem sg_repr {x : Str} (h : Sg x) : Sg (reprText x) := fun c hc => by
  unfold reprText at hc
  rw [Array.toList_push, List.mem_append] at hc
  rcases hc with hc | hc
  · rw [← Array.foldl_toList] at hc
    exact sg_fold (sg_quote x) _ _ h (fun d hd => by simp at hd; rw [hd]; exact sg_quote x) c hc
  · simp at hc; rw [hc]; exact sg_quote x
mutual
theorem Rp.sg {K : PySem.W.Frag} {w : World} {H : Hp} {fz : Addr → Prop} : ∀ {d : PyData} {v : V}, Rp K w H fz d v → Sg d.shown
  | _, _, .non => by rw [PyData.shown]; exact sg_string _
  | _, _, .bl b => by rw [PyData.shown]; cases b <;> exact sg_string _
  | _, _, .int i => by rw [PyData.shown]; exact sg_string _
  | _, _, .str h => by rw [PyData.shown]; exact sg_repr (sg_iff.mp h.2)
  | _, _, .tup _ _ r => by
    rw [PyData.shown]
    unfold tupleText
    exact ((sg_string _).app (sg_join _ (sg_string _) _ r.sg)).app (sg_string _)
  | _, _, .lst _ _ r => by
    rw [PyData.shown]
    unfold listText
    exact (sg_from _ _ _ (sg_string _) r.sg).app (sg_string _)
  | _, _, .dic _ _ r => by
    rw [PyData.shown]
    unfold dictText
    exact ((sg_string _).app (sg_join _ (sg_string _) _ r.sg)).app (sg_string _)
theorem RpA.sg {K : PySem.W.Frag} {w : World} {H : Hp} {fz : Addr → Prop} : ∀ {d : List PyData} {v : List V}, RpA K w H fz d v → ∀ x ∈ PyData.shownAll d, Sg x
  | _, _, .nil, _, h => by rw [PyData.shownAll] at h; cases h
  | _, _, .cons r t, x, h => by
    rw [PyData.shownAll] at h
    rcases List.mem_cons.mp h with e | e
    · rw [e]; exact r.sg
    · exact t.sg x e
theorem RpK.sg {K : PySem.W.Frag} {w : World} {H : Hp} {fz : Addr → Prop} : ∀ {d : List (PyData × PyData)} {v : List (Key × V)}, RpK K w H fz d v → ∀ x ∈ PyData.shownKv d, Sg x
  | _, _, .nil, _, h => by rw [PyData.shownKv] at h; cases h
  | _, _, .cons hk r t, x, h => by
    rw [PyData.shownKv] at h
    rcases List.mem_cons.mp h with e | e
    · rw [e]
      refine (Sg.app ?_ (sg_string _)).app r.sg
      cases hk with
      | str hx => rw [PyData.shown]; exact sg_repr (sg_iff.mp hx.2)
      | int i => rw [PyData.shown]; exact sg_string _
    · exact t.sg x e
end
theorem sOk_shown {d : PyData} {v : V} {K : PySem.W.Frag} {w : World} {H : Hp} {fz : Addr → Prop} (h : Rp K w H fz d v) (hl : d.shown.length ≤ LINE) : sOk d.shown := ⟨hl, sg_iff.mpr h.sg⟩
theorem bi_repr (G : Gd Y) : CallR Y.X (biV .repr) (rCall Y (biW .repr)) := by
  intro pins s σ H vs us Q I rv ⟨g, m, g0, H0, xs, z, σ', S, E0, rx, e, q⟩
  unfold biW at e
  split at e <;> first | (rename_i q0; cases q0; done) | (cases e; done) | skip
  rename_i w _
  cases ed : dataOf m w with
  | none => rw [ed] at e; cases e
  | some x =>
    rw [ed] at e
    dsimp only at e
    split at e
    · rename_i hc
      cases e
      rw [Bool.and_eq_true, Bool.and_eq_true, decide_eq_true_eq, decide_eq_true_eq] at hc
      obtain ⟨⟨h1, h2⟩, h3⟩ := hc
      obtain ⟨v, rfl, rx, _⟩ := rx.oneI
      obtain ⟨u, rfl, ru⟩ := vals1 rv
      have hd := data_rp S rx ed
      obtain ⟨as, hr, hn⟩ := hd.reads G.sys I x v u ru
      have hk := sOk_shown hd h3
      have hu := G.un
      have fin : ∀ h' t tk, (∀ b o, s.heap.get? b = some o → h'.get? b = some o) → EP Y.X pins σ Q (.str x.shown t) { s with heap := h', toks := tk } := fun h' t tk k =>
        ⟨.str x.shown, H, I.kept k, ⟨t, rfl⟩, q.strD S E0 hk⟩
      have fin0 : EP Y.X pins σ Q (.str x.shown s.toks) { s with toks := s.toks + 1 } := ⟨.str x.shown, H, I.tok _, ⟨_, rfl⟩, q.strD S E0 hk⟩
      have h3' : x.shown.length ≤ sizeLine := by rw [line_eq]; exact h3
      have refs : ∀ a, u = .ref a → wpAny (model Y.X.prog Y.X.w) Y.X.A (call (.builtin "repr") [u]) (EP Y.X pins σ Q) Y.X.xe s := fun a e => by
        subst e
        exact repr_of_reads' hr h1 (fun _ => hn) G.gu (by omega) (fun _ _ e => e) fin h3'
      cases hd with
      | non => cases ru; exact P.repr_of_none (by simpa only [PyData.shown] using fin0)
      | bl b => cases ru; exact P.repr_of_bool (by simpa only [PyData.shown] using fin0)
      | int i =>
        obtain ⟨t, rfl⟩ := ru
        have h1' : i.natAbs.log2 < 1920 := by simpa only [PyData.showable, decide_eq_true_eq] using h1
        exact P.repr_of_int h1' (by simpa only [PyData.shown] using fin0)
      | str hx => obtain ⟨t, rfl⟩ := ru; exact P.repr_of_str (by simpa only [PyData.shown] using fin0) (by simpa only [PyData.shown] using h3')
      | tup _ _ _ => exact refs _ ru
      | lst _ _ _ => exact refs _ ru
      | dic _ _ _ => exact refs _ ru
    · cases e
end Lo
/-! Calls of built-ins, minus, slices with a step, turned about. -/
namespace Lo
open PySem PySem.Spec PyProof.Rows L2
variable {Y : Cy}
/-! ### arguments -/
def noStar : Expr → Bool
  | .Starred _ _ => false
  | _ => true
theorem star_cons {e : Expr} {es : List Expr} {env : Env} (h : noStar e = true) : starEach (e :: es) env = (false, eval e env) :: starEach es env := by
  cases e <;> first | rfl | (exact absurd h Bool.false_ne_true)
theorem star_any {pos : Pos} {env : Env} : ∀ {es : List Expr}, es.all noStar = true → (backTo pos (starEach es env)).any (·.1) = false
  | [], _ => rfl
  | e :: es, h => by
    rw [List.all_cons, Bool.and_eq_true] at h
    rw [star_cons h.1]
    show (false || (backTo pos (starEach es env)).any (·.1)) = false
    rw [star_any h.2]
    rfl
theorem star_all {pos : Pos} {env : Env} : ∀ {es : List Expr}, es.all noStar = true → (backTo pos (starEach es env)).all (fun x => !x.1) = true
  | [], _ => rfl
  | e :: es, h => by
    rw [List.all_cons, Bool.and_eq_true] at h
    rw [star_cons h.1]
    show (!false && (backTo pos (starEach es env)).all (fun x => !x.1)) = true
    rw [star_all h.2]
    rfl
theorem few_ok {cpos : Pos} {env : Env} {es : List Expr} (h : es.all noStar = true) (hl : es.length < 30) :
    ((backTo cpos (starEach es env)).all (fun x => !x.1) && (backToKw cpos (keywordEach [] env)).all (fun x => x.1.isSome) && decide (es.length + ([] : List Keyword).length + (if ([] : List Keyword).isEmpty then 0 else 1) < 30)) = true := by
  rw [star_all h]
  show (true && true && decide (es.length + 0 + 0 < 30)) = true
  simp only [Nat.add_zero, Bool.true_and, decide_eq_true_eq]
  exact hl
/-! ### built-ins -/
theorem biOk (G : Gd Y) (C : Y.X.calm = true) (b : Bi) : CallR Y.X (biV b) (rCall Y (biW b)) := by
  cases b with
  | len => exact bi_len
  | all => exact bi_all C
  | any => exact bi_any C
  | sum => exact bi_sum C
  | minl => exact bi_minl C
  | min2 => exact bi_min2 C
  | max2 => exact bi_max2 C
  | sorted => exact bi_sorted C
  | tup => exact bi_tup
  | lst => exact bi_lst
  | dct => exact bi_dct C
  | int => exact bi_int
  | str => exact bi_str
  | repr => exact bi_repr G
def bn : Bi → Str
  | .len => "len" | .all => "all" | .any => "any" | .sum => "sum" | .minl => "min" | .min2 => "min" | .max2 => "max" | .sorted => "sorted" | .tup => "tuple" | .lst => "list" | .dct => "dict" | .int => "int" | .str => "str" | .repr => "repr"
theorem bn_boot (b : Bi) : bootBuiltins (bn b) = some (biV b) := by cases b <;> decide +kernel
theorem bn_name (b : Bi) : bn b ≠ "__name__" := by cases b <;> decide +kernel
theorem bn_debug (b : Bi) : (bn b == ("__debug__" : Str)) = false := by cases b <;> decide +kernel
def biF (b : Bi) (fs : En → Mem → R (List W)) : En → Mem → R W := fun ρ m => (fs ρ m).bind fun xs m => .of m (biW b xs m)
theorem snd_bi (G : Gd Y) (C : Y.X.calm = true) (b : Bi) {e : Expr} {es : List Expr} {p pos : Pos} {fs : En → Mem → R (List W)} (hg : Gl Y.X (bn b)) (hm : Y.X.mg (bn b) = none) (ha : PA Y.X (e :: es) (rdA Y fs)) (he : (e :: es).all noStar = true) :
    PE Y.X (.Call (.Name (bn b) p) (e :: es) [] pos) (rdE Y (biF b fs)) := by
  have h := he
  rw [List.all_cons, Bool.and_eq_true] at h
  have imp : ∀ σ H Q, rdE Y (biF b fs) σ H Q → tCB (rCall Y (biW b)) (rdA Y fs) σ H Q := fun σ H Q h => rd_args h
  have hb := biOk G C b
  cases b <;> first
    | exact (pe_callB hb hg hm (bn_boot _) ha (bn_name _) (bn_debug _) (star_cons h.1) (star_any h.2)).imp imp
    | exact (pe_callTy hb hg hm (bn_boot _) ha (bn_name _) (bn_debug _) (star_cons h.1) (star_any h.2)).imp imp
/-! ### -a -/
def negF (fa : En → Mem → R W) : En → Mem → R W := fun ρ m => (fa ρ m).bind fun x m => match x with
    | .d (.int i) => .ok (.d (.int (-i))) m
    | _ => .bad
theorem snd_neg {a : Expr} {pos : Pos} {fa : En → Mem → R W} (ha : PE Y.X a (rdE Y fa)) : PE Y.X (.UnaryOp .USub a pos) (rdE Y (negF fa)) :=
  (pe_un un_neg ha).imp fun σ H Q ⟨ρ, m, g, s, e, h⟩ => rd_step s e Ext0.refl h fun x m1 v H1 g1 s1 e1 rx E1 h1 => by
    split at h1
    · rename_i i
      obtain rfl := Rp.intI (show Rp _ _ _ _ (.int i) v from rx.1)
      exact ⟨i, rfl, h1.intD s1 e1⟩
    · exact h1.elim
/-! ### a[lo:hi:st] of a list -/
theorem pickL_rel {xs : List V} {its : List Value} (lo hi st : Option Int) (r : Vals xs its) : Vals (pickL xs lo hi st) (slicePick its.toArray lo hi st).toList := by
  unfold pickL slicePick
  rw [List.size_toArray, r.length]
  have go : ∀ ids : List Nat, Vals (ids.filterMap (xs[·]?)) (ids.filterMap (its.toArray[·]?)) := fun ids => by
    induction ids with
    | nil => exact .nil
    | cons i ids ih =>
      rw [List.filterMap_cons, List.filterMap_cons, List.getElem?_toArray]
      cases e : xs[i]? with
      | none => rw [r.none_of e]; exact ih
      | some x =>
        obtain ⟨u, eu, ru⟩ := r.get e
        rw [eu]
        exact .cons ru ih
  rw [List.toList_toArray]
  exact go _
theorem pickL_rp {K : PySem.W.Frag} {w : World} {H : Hp} {fz : Addr → Prop} {ds : List PyData} {vs : List V} (lo hi st : Option Int) (r : RpA K w H fz ds vs) : RpA K w H fz (pickL ds lo hi st) (pickL vs lo hi st) := by
  unfold pickL
  rw [r.length]
  have go : ∀ ids : List Nat, RpA K w H fz (ids.filterMap (ds[·]?)) (ids.filterMap (vs[·]?)) := fun ids => by
    induction ids with
    | nil => exact .nil
    | cons i ids ih =>
      rw [List.filterMap_cons, List.filterMap_cons]
      cases e : ds[i]? with
      | none =>
        have : vs[i]? = none := by
          have h1 := List.getElem?_eq_none_iff.mp e
          exact List.getElem?_eq_none_iff.mpr (by rw [← r.length]; exact h1)
        rw [this]; exact ih
      | some x =>
        obtain ⟨u, eu, ru⟩ := r.get e
        rw [eu]
        exact .cons ru ih
  exact go _
/-- a slice with three parts, by values -/
def Sl3R (X : Cx) (r : V → Option Int → Option Int → Option Int → Hp → VK → Prop) : Prop :=
  ∀ (pins : List (Addr × Obj)) (s : Shared) (σ : L2.St) (H : Hp) (x : V) (v vl vu vs : Value) (lo hi st : Option Int) (sl : Addr) (Q : VK), Inv X pins σ H s → RelV x v → s.heap.IsSliceOf sl vl vu vs → IsPart vl lo → IsPart vu hi → IsPart vs st → r x lo hi st H Q →
    ∃ T id, typeLookup (.type T) "__getitem__" = pure (some (.builtin id)) ∧ s.TypeIs v T ∧ wpAny (model X.prog X.w) X.A (getItem v (.ref sl)) (EP X pins σ Q) X.xe s
def tSl3 (r : V → Option Int → Option Int → Option Int → Hp → VK → Prop) (te : TE) (tl th ts : TO) : TE := fun σ H Q => te σ H fun x H1 => tl σ H1 fun l H2 => th σ H2 fun u H3 => ts σ H3 fun k H4 => r x l u k H4 Q
theorem pe_slice3 {X : Cx} {e k0 : Expr} {te : TE} {lo hi : Option Expr} {tl th ts : TO} {pos p2 : Pos} {r : V → Option Int → Option Int → Option Int → Hp → VK → Prop} (hr : Sl3R X r) (he : PE X e te) (hl : PO X lo tl) (hu : PO X hi th) (hk : PO X (some k0) ts) :
    PE X (.Subscript e (.Slice lo hi (some k0) p2) pos) (tSl3 r te tl th ts) := by
  refine ⟨fun pins s σ H Q I h => ?_⟩
  refine Subscript_ (thn (he.run pins s σ H _ I h) fun v s1 ⟨x, H1, I1, r1, q1⟩ => ?_)
  refine wpAny_Slice (thn (hl.run pins s1 σ H1 _ I1 q1) fun vl s2 ⟨l, H2, I2, pl, q2⟩ => thn (hu.run pins s2 σ H2 _ I2 q2) fun vu s3 ⟨u, H3, I3, pu, q3⟩ => thn (hk.run pins s3 σ H3 _ I3 q3) fun vs s4 ⟨k, H4, I4, pk, q4⟩ => ?_)
  have I5 : Inv X pins σ H4 { s4 with heap := s4.heap.push { cls := .type "slice", data := .fields #[vl, vu, vs] } } := I4.kept (t' := s4.toks) fun b ob q => Heap.get?_push_of_some _ q
  obtain ⟨T, id, hT, ht, hg⟩ := hr pins _ σ H4 x v vl vu vs l u k s4.heap.objs.size Q I5 r1 (Heap.IsSliceOf.new ..) pl pu pk q4
  show wpAny (model X.prog X.w) X.A (subscriptTail e (.Slice lo hi (some k0) p2) v (.ref s4.heap.objs.size)) (EP X pins σ Q) X.xe { s4 with heap := s4.heap.push { cls := .type "slice", data := .fields #[vl, vu, vs] } }
  exact tail_any (ops := [v, .ref s4.heap.objs.size]) ht hT hg (by with_unfolding_all rfl)
/-! ### t[::-1] -/
theorem adjust_rev (n : Nat) : Builtin.Slice.sliceAdjust none none (-1) (n : Int) = ((n : Int) - 1, -1) := rfl
theorem places_rev (n : Nat) : Builtin.Slice.slicePlaces ((n : Int) - 1) (-1) (-1) = n := by
  unfold Builtin.Slice.slicePlaces
  rw [if_neg (by decide)]
  by_cases h : n = 0
  · subst h; rfl
  · rw [if_pos (by omega), show (- -1 : Int) = 1 by decide, Int.ediv_one]
    omega
theorem fm_congr {α β : Type} {f g : α → Option β} : ∀ {l : List α}, (∀ a ∈ l, f a = g a) → l.filterMap f = l.filterMap g
  | [], _ => rfl
  | a :: l, h => by
    rw [List.filterMap_cons, List.filterMap_cons, h a List.mem_cons_self, fm_congr fun b hb => h b (List.mem_cons_of_mem _ hb)]
theorem pick_rev (xs : Array Value) : ((List.range xs.size).filterMap fun (m : Nat) => xs[(((xs.size : Int) - 1) + (m : Int) * (-1)).toNat]?).toArray = xs.toList.reverse.toArray := by
  have e : ((List.range xs.size).filterMap fun (m : Nat) => xs[(((xs.size : Int) - 1) + (m : Int) * (-1)).toNat]?) = ((List.range xs.size).map fun k => xs.size - 1 - k).filterMap (xs[·]?) := by
    rw [List.filterMap_map]
    refine fm_congr fun m hm => ?_
    have := List.mem_range.mp hm
    show xs[_]? = xs[xs.size - 1 - m]?
    congr 1
    omega
  rw [e, PySem.W.krv_range, List.filterMap_reverse, PySem.W.krv_all]
section
variable {prog : Program} {w : World} {A : Around} {E : Value → Shared → Prop} {s : Shared}
theorem applied_rev {sl : Addr} {t : Tok} {n : Nat} {Q : Int × Int × Nat → Shared → Prop} (hs : s.heap.IsSliceOf sl .none .none (.int (-1) t))
    (h : Q ((n : Int) - 1, -1, n) s) : wpAny (model prog w) A (Builtin.Slice.sliceApplied (.ref sl) (pure (n : Int))) Q E s := by
  obtain ⟨os, hos, hcs, hds⟩ := id hs
  unfold Builtin.Slice.sliceApplied Builtin.Slice.sliceFields
  refine wpAny_bind (wpAny_bind (wpAny_field hos hds (x := .none) rfl (wpAny_bind (wpAny_field hos hds (x := .none) rfl (wpAny_bind (wpAny_field hos hds (x := .int (-1) t) rfl (wpAny_pure ?_)))))))
  refine wpAny_bind (slicePart_int ?_)
  show wpAny _ _ (if ((-1 : Int) == 0) = true then _ else _) _ _ s
  rw [if_neg (by decide)]
  refine wpAny_bind (slicePart_none (wpAny_bind (slicePart_none (wpAny_bind (wpAny_pure ?_)))))
  show wpAny _ _ (match Builtin.Slice.sliceAdjust none none (-1) (n : Int) with | (lo, hi) => pure (lo, (-1 : Int), Builtin.Slice.slicePlaces lo hi (-1))) _ _ s
  rw [adjust_rev n]
  show wpAny _ _ (pure ((n : Int) - 1, (-1 : Int), Builtin.Slice.slicePlaces ((n : Int) - 1) (-1) (-1))) _ _ s
  rw [places_rev]
  exact wpAny_pure h
theorem item_rev {t sl : Addr} {items : Array Value} {tk : Tok} {Q : Value → Shared → Prop} (ht : IsTup s.heap t items) (hs : s.heap.IsSliceOf sl .none .none (.int (-1) tk))
    (h : Q (.ref s.heap.objs.size) { s with heap := s.heap.push { cls := .type "tuple", data := .seq items.toList.reverse.toArray } })
    (hsz : items.size ≤ sizeLine) : wpAny (model prog w) A (getItem (.ref t) (.ref sl)) Q E s := by
  have htake : sizeOk (.seq items.toList.reverse.toArray) := by
    show items.toList.reverse.toArray.size ≤ sizeLine
    rw [List.size_toArray, List.length_reverse, Array.length_toList]
    exact hsz
  obtain ⟨os, hos, hcs, hds⟩ := id hs
  have hTs : s.TypeIs (.ref sl) "slice" := ⟨os, hos, hcs⟩
  unfold getItem
  try with_reducible refine wpAny_holding ?_
  first | refine wpAny_bind (wpAny_pure ?_) | skip
  refine wpAny_bind (wpAny_sequenceKey ht.typeIs (by decide) ?_)
  refine wpAny_bind (wpAny_callSpecial?_slot (name := Str.ofString "__getitem__") ht.typeIs PyProof.Rows.slot_tuple_getitem
    (wpAny_call_entry PyProof.Rows.slot_tuple_getitem ht.typeIs entry_tuple_getitem ?_ (args_tuple_getitem _ _)))
  show wpAny _ _ (Builtin.Tuple.tupleItemsOf (.ref t) >>= _) _ _ s
  refine wpAny_bind (tupleItemsOf_ ht ?_)
  refine wpAny_bind (wpAny_typeOf hTs ?_)
  rw [if_pos (by decide)]
  refine wpAny_bind (applied_rev hs ?_)
  have hno : ¬ ((((items.size : Int) - 1) == 0 && (-1 : Int) == 1 && items.size == items.size) = true) := by
    rw [Bool.and_eq_true, Bool.and_eq_true]
    exact fun q => absurd q.1.2 (by decide)
  show wpAny _ _ (if (((items.size : Int) - 1) == 0 && (-1 : Int) == 1 && items.size == items.size) = true then _ else _) _ _ s
  rw [if_neg hno, pick_rev]
  first
    | exact wpAny_bind (m := Builtin.Tuple.tupleExact _) (wpAny_newObj_type (wpAny_pure ⟨_, rfl, wpAny_pure h⟩) htake)
    | exact wpAny_bind (m := Builtin.Tuple.tupleExact _) (wpAny_newObj_type (wpAny_bind (wpAny_pure (wpAny_pure ⟨_, rfl, wpAny_pure h⟩))) htake)
    | exact wpAny_bind (wpAny_bind (m := Builtin.Tuple.tupleExact _) (wpAny_newObj_type (wpAny_pure (wpAny_pure ⟨_, rfl, wpAny_pure h⟩)) htake))
    | exact wpAny_bind (wpAny_bind (m := Builtin.Tuple.tupleExact _) (wpAny_newObj_type (wpAny_pure ⟨_, rfl, wpAny_pure h⟩) htake))
theorem str_rev {x : Str} {t tk : Tok} {sl : Addr} {Q : Value → Shared → Prop} (hs : s.heap.IsSliceOf sl .none .none (.int (-1) tk)) (h : Q (.str ⟨x.cps.toList.reverse.toArray⟩ s.toks) { s with toks := s.toks + 1 }) (hz : x.length ≤ sizeLine) :
    wpAny (model prog w) A (getItem (.str x t) (.ref sl)) Q E s := by
  refine wpAny_getItem_str_slice (l := none) (u := none) (st := some (-1, tk)) hs rfl ?_
  have e : sliceMade x t none none (some (-1, tk)) = .str ⟨x.cps.toList.reverse.toArray⟩ := by
    unfold sliceMade
    rw [if_neg (by show ¬ (((-1 : Int) == 1) && _) = true; rw [show ((-1 : Int) == 1) = false by decide, Bool.false_and]; exact Bool.false_ne_true)]
    congr 2
    have e2 : slicePicked x none none (some (-1, tk)) = (List.range x.cps.size).map fun k => x.cps.size - 1 - k := PySem.W.krv_sliceRange x.cps.size
    rw [e2, PySem.W.krv_range, List.filterMap_reverse, PySem.W.krv_all]
  rw [e]
  exact ⟨by show x.cps.toList.reverse.toArray.size ≤ sizeLine; rw [List.size_toArray, List.length_reverse, Array.length_toList]; exact hz, h⟩
end
def rStep (Y : Cy) : V → Option Int → Option Int → Option Int → Hp → VK → Prop := fun v lo hi st H Q =>
  ∃ g m g0 H0 x z σ, Sr Y.X.K Y.X.w g H m ∧ Ext0 g0 H0 g H ∧ Rw Y.X.K Y.X.w Y.sx g H x v ∧ stepW x lo hi st m = some z ∧ Pst Y (relW Y) g0 H0 σ (.ok z m) Q
theorem part_none {v : Value} (h : IsPart v none) : v = .none := by cases h; rfl
theorem part_int {v : Value} {i : Int} (h : IsPart v (some i)) : ∃ t, v = .int i t := by cases h; exact ⟨_, rfl⟩
theorem stepOk : Sl3R Y.X (rStep Y) := by
  intro pins s σ H v vv vl vu vs lo hi st sl Q I rv hs pl pu pk ⟨g, m, g0, H0, x, z, σ', S, E0, rx, e, q⟩
  unfold stepW at e
  split at e
  · rename_i xs
    split at e
    · rename_i hc
      obtain ⟨rfl, rfl, rfl⟩ := hc
      cases e
      obtain rfl := part_none pl
      obtain rfl := part_none pu
      obtain ⟨t, rfl⟩ := part_int pk
      obtain ⟨a, vs, rfl, ha, hz, r⟩ := Rp.tupI (show Rp Y.X.K Y.X.w H g.fz (.tuple xs) v from rx)
      cases rv
      obtain ⟨its, rv, ht, hz2⟩ := I.tuple ha.sq
      refine ⟨"tuple", _, PyProof.Rows.slot_tuple_getitem.lookup, ht.typeIs, item_rev ht hs ?_ (by rw [List.size_toArray, ← rv.length]; exact hz2)⟩
      exact laidZ (h' := s.heap) I (fun _ _ e => e) rv.reverse (by rw [List.length_reverse]; exact hz2) fun p o hp ho => q.newT S E0 r.reverse (by rw [List.length_reverse]; exact hz) p o hp ho
    · cases e
  · rename_i xs
    split at e
    · rename_i hc
      obtain ⟨rfl, rfl, rfl⟩ := hc
      cases e
      obtain rfl := part_none pl
      obtain rfl := part_none pu
      obtain ⟨t, rfl⟩ := part_int pk
      obtain ⟨rfl, k⟩ := Rp.strI (show Rp _ _ _ _ (.str xs) v from rx)
      obtain ⟨t', rfl⟩ := rv
      refine ⟨"str", _, slot_str_getitem.lookup, typeIs_str s xs t', str_rev hs ?_ (by rw [line_eq]; exact k.1)⟩
      refine ⟨.str _, H, I.tok _, ⟨_, rfl⟩, q.strD S E0 ?_⟩
      exact k.of_mem (by rw [List.length_reverse, Array.length_toList]; exact k.1) fun c hc => List.mem_reverse.mp hc
    · cases e
  · cases el : listR m x with
    | none => rw [el] at e; cases e
    | some xs =>
      rw [el] at e
      dsimp only at e
      split at e
      · rename_i h0
        cases e
        obtain ⟨a, us, rfl, ha, hz, r⟩ := listR_at S rx el
        cases rv
        obtain ⟨its, rv, ht, hz2⟩ := I.list ha
        refine ⟨"list", _, slot_list_getitem.lookup, ht.isList.typeIs, wpAny_getItem_list_slice ht.isList hs pl pu pk h0 ?_ (by rw [List.size_toArray, ← rv.length]; exact hz2)⟩
        have hl : (pickL us lo hi st).length ≤ LINE := by
          have h1 := (pickL_rel lo hi st rv).length
          have h2 := slicePick_size_le its.toArray lo hi st
          rw [← Array.length_toList, List.size_toArray, ← rv.length] at h2
          omega
        refine ⟨.ref s.heap.objs.size, _, I.laid (t' := s.toks) (o := .lst (pickL us lo hi st)) (fun b ob q => Heap.get?_push_of_some _ q) (Nat.le_refl _) ?_, rfl, q.newL S E0 (pickL_rp lo hi st r) hl _ (I.hok.fresh (Nat.le_refl _))⟩
        exact ⟨by rw [line_eq]; exact hl, _, 0, pickL_rel lo hi st rv, by rw [Array.toArray_toList]; exact Heap.get?_push_size _ rfl⟩
      · cases e
def stepF (fa : En → Mem → R W) (fl fh fk : En → Mem → R (Option Int)) : En → Mem → R W := fun ρ m => (fa ρ m).bind fun x m => (fl ρ m).bind fun l m => (fh ρ m).bind fun h m => (fk ρ m).bind fun k m => .of m (stepW x l h k m)
theorem snd_step {a k0 : Expr} {lo hi : Option Expr} {p2 pos : Pos} {fa : En → Mem → R W} {fl fh fk : En → Mem → R (Option Int)} (ha : PE Y.X a (rdE Y fa)) (hl : PO Y.X lo (rdO Y fl)) (hh : PO Y.X hi (rdO Y fh)) (hk : PO Y.X (some k0) (rdO Y fk)) :
    PE Y.X (.Subscript a (.Slice lo hi (some k0) p2) pos) (rdE Y (stepF fa fl fh fk)) :=
  (pe_slice3 stepOk ha hl hh hk).imp fun σ H Q ⟨ρ, m, g, s, e, h⟩ => rd_step s e Ext0.refl h fun x m1 v H1 g1 s1 e1 rx E1 h1 =>
    rd_step s1 E1 e1 h1 fun l m2 l' H2 g2 s2 e2 rl E2 h2 => rd_step s2 E2 (e1.trans s1 e2) h2 fun r m3 r' H3 g3 s3 e3 rr E3 h3 => rd_step s3 E3 ((e1.trans s1 e2).trans s2 e3) h3 fun k m4 k' H4 g4 s4 e4 rk E4 h4 => by
      cases rl
      cases rr
      cases rk
      cases q : stepW x l r k m4 with
      | none => rw [q] at h4; exact h4.elim
      | some z =>
        rw [q] at h4
        exact ⟨g4, m4, g, H, x, z, σ, s4, ((e1.trans s1 e2).trans s2 e3).trans s3 e4, ((rx.1.keep s1 e2.1).keep s2 e3.1).keep s3 e4.1, q, h4⟩
end Lo
/-! isinstance. -/
namespace Lo
open PySem PySem.Spec PyProof.Rows L2
variable {Y : Cy}
def tyVal (Y : Cy) : Ty → Value
  | .int => .type "int" | .bool => .type "bool" | .str => .type "str" | .tuple => .type "tuple" | .list => .type "list" | .dict => .type "dict" | .cls k => Y.cx k
def vOf : Value → V
  | .ref a => .ref a
  | .type n => .ty n
  | _ => .non
/-- a class is a class object or a built-in one -/
def IsC (v : Value) : Prop := (∃ a, v = .ref a) ∨ ∃ n, v = .type n
theorem IsC.cv {v : Value} (h : IsC v) : ClsV (vOf v) v := by
  rcases h with ⟨a, rfl⟩ | ⟨n, rfl⟩
  · exact .own a
  · exact .ty n
def tyName : PyData → String
  | .none => "NoneType" | .bool _ => "bool" | .int _ => "int" | .str _ => "str" | .list _ => "list" | .tuple _ => "tuple" | .dict _ => "dict"
theorem Rp.tyx {K : PySem.W.Frag} {w : World} {H : Hp} {fz : Addr → Prop} {d : PyData} {v : V} (h : Rp K w H fz d v) : TyX K H v (.type (tyName d)) := by
  cases h with
  | non => exact .base .non
  | bl b => exact .base (.bl b)
  | int i => exact .base (.int i)
  | str _ => exact .base (.str _)
  | tup h _ _ =>
    rcases h with ⟨o, h, _⟩ | ⟨o, its, n, h1, h2, _⟩
    · exact .fTuple h
    · exact .kTuple h1 h2
  | lst h _ _ => exact .base (.lst h.2)
  | dic h _ _ => exact .base (.dK h.2)
def isiN (n : String) : Ty → Bool
  | .int => n == "int" || n == "bool"
  | .bool => n == "bool"
  | .str => n == "str"
  | .tuple => n == "tuple"
  | .list => n == "list"
  | .dict => n == "dict"
  | .cls _ => false
def tyStr : Ty → String
  | .int => "int" | .bool => "bool" | .str => "str" | .tuple => "tuple" | .list => "list" | .dict => "dict" | .cls _ => ""
theorem kit_names : ∀ n ∈ ["NoneType", "bool", "int", "str", "list", "tuple", "dict"], ∀ t ∈ [Ty.int, Ty.bool, Ty.str, Ty.tuple, Ty.list, Ty.dict], kitB n (tyStr t) = some (isiN n t) := by decide +kernel
theorem tyName_mem (d : PyData) : tyName d ∈ ["NoneType", "bool", "int", "str", "list", "tuple", "dict"] := by cases d <;> simp [tyName]
theorem isiN_eq (d : PyData) (t : Ty) (h : isCls t = false) : isiN (tyName d) t = isiD d t := by
  cases t with
  | cls k => cases h
  | _ => cases d <;> rfl
theorem kit_data {K : PySem.W.Frag} (d : PyData) (t : Ty) (h : isCls t = false) (Y : Cy) : PySem.W.kitOne K (.type (tyName d)) (tyVal Y t) = some (isiD d t) := by
  rw [← isiN_eq d t h]
  cases t with
  | cls k => cases h
  | int => exact kit_ty (kit_names _ (tyName_mem d) .int (by simp))
  | bool => exact kit_ty (kit_names _ (tyName_mem d) .bool (by simp))
  | str => exact kit_ty (kit_names _ (tyName_mem d) .str (by simp))
  | tuple => exact kit_ty (kit_names _ (tyName_mem d) .tuple (by simp))
  | list => exact kit_ty (kit_names _ (tyName_mem d) .list (by simp))
  | dict => exact kit_ty (kit_names _ (tyName_mem d) .dict (by simp))
theorem kit_datas {K : PySem.W.Frag} (d : PyData) (Y : Cy) : ∀ ts : List Ty, ts.any isCls = false → PySem.W.kitAny K (.type (tyName d)) (ts.map (tyVal Y)) = some (ts.any (isiD d))
  | [], _ => kitAny_nil
  | t :: ts, h => by
    rw [List.any_cons, Bool.or_eq_false_iff] at h
    have ih := kit_datas (K := K) d Y ts h.2
    refine kitAny_cons (kit_data d t h.1 Y) (fun e => ?_) fun e => ?_
    · rw [ih, List.any_cons, e, Bool.false_or]
    · rw [List.any_cons, e, Bool.true_or]
/-- what isinstance says of the exception that is held -/
def rExc (Y : Cy) (sub : Nat → List Nat → Option Bool) (a : Addr) (c : Nat) : List V → Hp → VK → Prop := fun xs H Q =>
  ∃ ks b, sub c ks = some b ∧ ((∃ k, ks = [k] ∧ xs = [.ref a, vOf (Y.cx k)]) ∨ ∃ tp, xs = [.ref a, .ref tp] ∧ H tp = some (.tup (ks.map fun k => vOf (Y.cx k)))) ∧ Q (.bl b) H
structure XOk (Y : Cy) (sub : Nat → List Nat → Option Bool) : Prop where
  call : ∀ a c, Y.sx = some (a, c) → CallR Y.X (.builtin "isinstance") (rExc Y sub a c)
/-- a class, several classes -/
structure TyE (Y : Cy) (e : Expr) (t : Ty) : Prop where
  pe : PE Y.X e (tC (vOf (tyVal Y t)))
  cl : IsC (tyVal Y t)
  ns : noStar e = true
inductive TyEs (Y : Cy) : List Expr → List Ty → Prop
  | nil : TyEs Y [] []
  | cons {e : Expr} {t : Ty} {es : List Expr} {ts : List Ty} : TyE Y e t → TyEs Y es ts → TyEs Y (e :: es) (t :: ts)
theorem TyEs.pa {es : List Expr} {ts : List Ty} (h : TyEs Y es ts) : PA Y.X es (fun _ H Q => Q (ts.map fun t => vOf (tyVal Y t)) H) := by
  induction h with
  | nil => exact pa_nil
  | cons h t ih => exact pa_cons h.pe ih (star_cons h.ns)
theorem TyEs.cv {es : List Expr} {ts : List Ty} (h : TyEs Y es ts) : Paired ClsV (ts.map fun t => vOf (tyVal Y t)) (ts.map (tyVal Y)) := by
  induction h with
  | nil => exact .nil
  | cons h t ih => exact .cons h.cl.cv ih
theorem TyEs.star {es : List Expr} {ts : List Ty} (h : TyEs Y es ts) : es.all noStar = true := by
  induction h with
  | nil => rfl
  | cons h t ih => rw [List.all_cons, h.ns, ih]; rfl
theorem TyEs.length {es : List Expr} {ts : List Ty} (h : TyEs Y es ts) : es.length = ts.length := by
  induction h with
  | nil => rfl
  | cons h t ih => rw [List.length_cons, List.length_cons, ih]
theorem clsL_map : ∀ {ts : List Ty} {ks : List Nat}, clsL ts = some ks → ts.map (fun t => vOf (tyVal Y t)) = ks.map fun k => vOf (Y.cx k)
  | [], _, h => by cases h; rfl
  | .cls k :: ts, _, h => by
    unfold clsL at h
    cases e : clsL ts with
    | none => rw [e] at h; cases h
    | some ks => rw [e] at h; cases h; rw [List.map_cons, List.map_cons, clsL_map e]; rfl
  | .int :: _, _, h => by cases h
  | .bool :: _, _, h => by cases h
  | .str :: _, _, h => by cases h
  | .tuple :: _, _, h => by cases h
  | .list :: _, _, h => by cases h
  | .dict :: _, _, h => by cases h
def isiF (sub : Nat → List Nat → Option Bool) (fa : En → Mem → R W) (ts : List Ty) : En → Mem → R W := fun ρ m => (fa ρ m).bind fun x m => .of m (okB (isiW sub m ts x))
/-- the answer by values; the class: one, or a tuple of some -/
def rIsiW (Y : Cy) (sub : Nat → List Nat → Option Bool) (ts : List Ty) : List V → Hp → VK → Prop := fun vs H Q =>
  ∃ g m g0 H0 x v b σ, Sr Y.X.K Y.X.w g H m ∧ Ext0 g0 H0 g H ∧ Rw Y.X.K Y.X.w Y.sx g H x v ∧ isiW sub m ts x = some b ∧ Pst Y (relW Y) g0 H0 σ (.ok (.d (.bool b)) m) Q ∧
    Paired ClsV (ts.map fun t => vOf (tyVal Y t)) (ts.map (tyVal Y)) ∧ ((∃ t, ts = [t] ∧ vs = [v, vOf (tyVal Y t)]) ∨ ∃ tp, vs = [v, .ref tp] ∧ H tp = some (.tup (ts.map fun t => vOf (tyVal Y t))))
theorem call_isiW {sub : Nat → List Nat → Option Bool} {ts : List Ty} (X : XOk Y sub) : CallR Y.X (.builtin "isinstance") (rIsiW Y sub ts) := by
  intro pins s σ H vs us Q I rv ⟨g, m, g0, H0, x, v, b, σ', S, E0, rx, e, q, cv, hv⟩
  have data : ∀ d, dataOf m x = some d → ts.any isCls = false → b = ts.any (isiD d) → wpAny (model Y.X.prog Y.X.w) Y.X.A (call (.builtin "isinstance") us) (EP Y.X pins σ Q) Y.X.xe s := fun d ed hc eb => by
    subst eb
    have ty := (data_rp S rx ed).tyx
    rcases hv with ⟨t, rfl, rfl⟩ | ⟨tp, rfl, ht⟩
    · have h1 : isCls t = false := by simpa using hc
      have h2 := kit_data (K := Y.X.K) d t h1 Y
      rw [List.any_cons, List.any_nil, Bool.or_false] at q
      cases cv with
      | cons c1 _ => exact call_isi pins s σ H _ us Q I rv ⟨v, _, _, _, _, rfl, c1, ty, h2, q.blD S E0⟩
    · exact call_isiT pins s σ H _ us Q I rv ⟨v, tp, _, _, _, _, rfl, ht, cv, ty, kit_datas d Y ts hc, q.blD S E0⟩
  have plain : (∀ c, x ≠ .exc c) → (if ts.any isCls then none else (dataOf m x).map fun x => ts.any (isiD x)) = some b → wpAny (model Y.X.prog Y.X.w) Y.X.A (call (.builtin "isinstance") us) (EP Y.X pins σ Q) Y.X.xe s := fun _ e => by
    split at e
    · cases e
    · rename_i hc
      cases ed : dataOf m x with
      | none => rw [ed] at e; cases e
      | some d =>
        rw [ed] at e
        cases e
        exact data d ed (by simpa using hc) rfl
  cases x with
  | exc c =>
    have e : (clsL ts).bind (sub c) = some b := e
    cases ek : clsL ts with
    | none => rw [ek] at e; cases e
    | some ks =>
      rw [ek, Option.bind_some] at e
      obtain ⟨a, ea, rfl⟩ := (show ∃ a, Y.sx = some (a, c) ∧ v = .ref a from rx)
      refine X.call a c ea pins s σ H vs us Q I rv ⟨ks, b, e, ?_, q.blD S E0⟩
      rcases hv with ⟨t, rfl, rfl⟩ | ⟨tp, rfl, ht⟩
      · have em := clsL_map (Y := Y) ek
        match ks, em with
        | [k], em =>
          refine .inl ⟨k, rfl, ?_⟩
          have e1 : vOf (tyVal Y t) = vOf (Y.cx k) := (List.cons.inj em).1
          rw [e1]
        | [], em => exact absurd (congrArg List.length em) (by simp)
        | _ :: _ :: _, em => exact absurd (congrArg List.length em) (by simp)
      · exact .inr ⟨tp, rfl, by rw [ht, clsL_map ek]⟩
  | _ => exact plain (fun _ z => nomatch z) e
theorem boot_isi : bootBuiltins ("isinstance" : Str) = some (.builtin "isinstance") := by decide +kernel
/-- isinstance(a, T) -/
theorem snd_isi {sub : Nat → List Nat → Option Bool} (X : XOk Y sub) {a e : Expr} {t : Ty} {p pos : Pos} {fa : En → Mem → R W} (hg : Gl Y.X "isinstance") (hm : Y.X.mg "isinstance" = none) (ha : PE Y.X a (rdE Y fa)) (na : noStar a = true) (ht : TyE Y e t) :
    PE Y.X (.Call (.Name "isinstance" p) [a, e] [] pos) (rdE Y (isiF sub fa [t])) :=
  (pe_callB (call_isiW (ts := [t]) X) hg hm boot_isi (pa_cons ha (pa_cons ht.pe pa_nil (star_cons ht.ns)) (star_cons na)) (by decide +kernel) (by decide +kernel) (star_cons na) (star_any (by rw [List.all_cons, ht.ns]; rfl))).imp
    fun σ H Q ⟨ρ, m, g, s, E, h⟩ => rd_step s E Ext0.refl h fun x m1 v H1 g1 s1 e1 rx E1 h1 => by
      cases q : isiW sub m1 [t] x with
      | none => rw [q] at h1; exact h1.elim
      | some b =>
        rw [q] at h1
        exact ⟨g1, m1, g, H, x, v, b, σ, s1, e1, rx.1, q, h1, .cons ht.cl.cv .nil, .inl ⟨t, rfl, rfl⟩⟩
/-- isinstance(a, (T, ..)) -/
theorem snd_isiT {sub : Nat → List Nat → Option Bool} (X : XOk Y sub) {a : Expr} {es : List Expr} {ts : List Ty} {k : Nat} {p p2 pos : Pos} {fa : En → Mem → R W} (hg : Gl Y.X "isinstance") (hm : Y.X.mg "isinstance" = none) (ha : PE Y.X a (rdE Y fa)) (na : noStar a = true) (ht : TyEs Y es ts) (hl : ts.length ≤ LINE) :
    PE Y.X (.Call (.Name "isinstance" p) [a, .Tuple es k p2] [] pos) (rdE Y (isiF sub fa ts)) :=
  (pe_callB (call_isiW (ts := ts) X) hg hm boot_isi (pa_cons ha (pa_cons (pe_tup ht.pa) pa_nil rfl) (star_cons na)) (by decide +kernel) (by decide +kernel) (star_cons na) (star_any rfl)).imp
    fun σ H Q ⟨ρ, m, g, s, E, h⟩ => rd_step s E Ext0.refl h fun x m1 v H1 g1 s1 e1 rx E1 h1 => by
      cases q : isiW sub m1 ts x with
      | none => rw [q] at h1; exact h1.elim
      | some b =>
        rw [q] at h1
        refine ⟨by rw [List.length_map, line_eq]; exact hl, fun p hp => ?_⟩
        exact ⟨g1, m1, g, H, x, v, b, σ, s1.new hp, e1.trans s1 (Ext0.new hp), rx.1.keep s1 (Ext0.new hp).1, q, h1, ht.cv, .inr ⟨p, rfl, upd_same⟩⟩
end Lo
/-! Methods of built-in types. -/
namespace Lo
open PySem PySem.Spec PyProof.Rows L2
variable {Y : Cy}
/-! ### a cell is rewritten -/
section
variable {K : PySem.W.Frag} {w : World} {g g0 : Gm} {H H0 : Hp} {m : Mem} {n : Nat} {a : Addr} {h : HO} {o : MO}
theorem Sr.ne_fz (s : Sr K w g H m) (ha : g.mu[n]? = some a) {b : Addr} (hb : g.fz b) : b ≠ a := fun e => s.dis b hb (e ▸ List.mem_of_getElem? ha)
theorem put_keeps (s : Sr K w g H m) (ha : g.mu[n]? = some a) : Keeps K H g.fz (upd H a h) g.fz where
  tup := fun b o xs q => by rw [upd_ne (fun e : b = a => s.notTup q (by rw [e]; exact List.mem_of_getElem? ha))]; exact q
  lst := fun b xs f q => by rw [upd_ne (s.ne_fz ha f)]; exact q
  dic := fun b xs f q => by rw [upd_ne (s.ne_fz ha f)]; exact q
  fz := fun _ f => f
theorem Sr.free (s : Sr K w g H m) (ha : g.mu[n]? = some a) {u : MO} (hu : m[n]? = some u) (hn : ∀ xs, u ≠ .lk xs) : ¬ g.lk a := fun h => by
  obtain ⟨xs, e⟩ := (s.lkd n a u ha hu).mp h
  exact hn xs e
theorem Sr.put (s : Sr K w g H m) (ha : g.mu[n]? = some a) (hl : ¬ g.lk a) (ho : ∀ xs, o ≠ .lk xs) (hc : Cr K w (upd H a h) g.fz a o) : Sr K w g (upd H a h) (m.set n o) where
  len := by rw [List.length_set]; exact s.len
  nd := s.nd
  dis := s.dis
  fzs := fun b f => by rw [upd_ne (s.ne_fz ha f)]; exact s.fzs b f
  cell := fun k b u h1 h2 => by
    by_cases e : n = k
    · subst e
      rw [ha] at h1
      cases h1
      have hl : n < m.length := by rw [← s.len]; exact (List.getElem?_eq_some_iff.mp ha).1
      rw [List.getElem?_set_self hl] at h2
      cases h2
      exact hc
    · rw [List.getElem?_set_ne e] at h2
      have hb : b ≠ a := fun q => by
        subst q
        exact e ((List.getElem?_inj (List.getElem?_eq_some_iff.mp ha).1 s.nd).mp (ha.trans h1.symm))
      exact (s.cell k b u h1 h2).keep (put_keeps s ha) (upd_ne hb)
  lkd := fun k b u h1 h2 => by
    by_cases e : n = k
    · subst e
      rw [ha] at h1
      cases h1
      have hl : n < m.length := by rw [← s.len]; exact (List.getElem?_eq_some_iff.mp ha).1
      rw [List.getElem?_set_self hl] at h2
      cases h2
      exact ⟨fun q => absurd q ‹_›, fun ⟨xs, q⟩ => absurd q (ho xs)⟩
    · rw [List.getElem?_set_ne e] at h2
      exact s.lkd k b u h1 h2
  lkm := s.lkm
theorem Ext0.put (x : Ext0 g0 H0 g H) (ha : g.mu[n]? = some a) (hl : ¬ g.lk a) : Ext0 g0 H0 g (upd H a h) :=
  ⟨⟨x.1.mu, x.1.fz, x.1.nfz, fun b u q hb => by
    rw [upd_ne (fun e => hb.elim (fun hb => hb (by rw [← x.2, e]; exact List.mem_of_getElem? ha)) fun hb => hl (by rw [x.1.lk, ← e]; exact hb))]
    exact x.1.keep b u q hb, x.1.lk⟩, x.2⟩
end
/-! ### o.m(..) -/
def MtTy (X : Cx) (T : String) (ty : V → Hp → Prop) : Prop :=
  ∀ (pins : List (Addr × Obj)) (s : Shared) (σ : L2.St) (H : Hp) (x : V) (u : Value), Inv X pins σ H s → RelV x u → ty x H → s.TypeIs u T ∧ ∀ a, u = .ref a → ∃ ob, s.heap.get? a = some ob ∧ ob.dict = none
def tMt (ty : V → Hp → Prop) (r : V → List V → Hp → VK → Prop) (to : TE) (t : TA) : TE := fun σ H Q => to σ H fun x H1 => ty x H1 ∧ t σ H1 fun xs H2 => r x xs H2 Q
theorem pe_mY {X : Cx} {T id : String} {name : Str} {o e : Expr} {es : List Expr} {to : TE} {t : TA} {apos cpos : Pos} {ty : V → Hp → Prop} {r : V → List V → Hp → VK → Prop} (pa : PlainAttrs T) (slot : Slot T name id) (hid : typeOf (.builtin id) = pure (.type "method_descriptor")) (hty : MtTy X T ty) (hm : MtR X id r) (ho : PE X o to) (ha : PA X (e :: es) t)
    (hbase : attributeBase o name X.env (eval o X.env) = eval o X.env) (hn : (e :: es).all noStar = true) (hl : (e :: es).length < 30) (hline : (apos.endLine == cpos.line) = true) : PE X (.Call (.Attribute o name apos) (e :: es) [] cpos) (tMt ty r to t) := by
  refine ⟨fun pins s σ H Q I h => wpAny_Call_method_late hbase (few_ok hn hl) hline rfl (thn (ho.run pins s σ H _ I h) fun v s1 ⟨x, H1, I1, r1, tx, q1⟩ => ?_)⟩
  obtain ⟨h1, h2⟩ := hty pins s1 σ H1 x v I1 r1 tx
  refine ⟨T, id, pa, slot, hid, h1, h2, ?_⟩
  rw [List.all_cons, Bool.and_eq_true] at hn
  have hs := star_cons (es := es) (env := X.env) hn.1
  have hA := ha.run cpos pins s1 σ H1 _ I1 q1
  rw [hs] at hA ⊢
  refine Calls.callWith_builtin (by show (false || (backTo cpos (starEach es X.env)).any (·.1)) = false; rw [star_any hn.2]; rfl) (Calls.evalArgs_plain ?_)
  exact thn hA fun us s2 ⟨vs, H2, I2, r2, q2⟩ => hm pins s2 σ H2 x vs v us Q I2 r1 r2 q2
/-- by the small language -/
def rMt (Y : Cy) (t : Mt) : V → List V → Hp → VK → Prop := fun v vs H Q =>
  ∃ g m g0 H0 x xs σ, Sr Y.X.K Y.X.w g H m ∧ Ext0 g0 H0 g H ∧ Rw Y.X.K Y.X.w Y.sx g H x v ∧ RwA Y.X.K Y.X.w Y.sx g H0 H xs vs ∧ Pst Y (relW Y) g0 H0 σ (mtW t x xs m) Q
def rTy (Y : Cy) (t : Mt) : V → Hp → Prop := fun v H => ∃ g m x, Sr Y.X.K Y.X.w g H m ∧ Rw Y.X.K Y.X.w Y.sx g H x v ∧ recvOk t x m = true
def mtF (t : Mt) (fo : En → Mem → R W) (fs : En → Mem → R (List W)) : En → Mem → R W := fun ρ m => (fo ρ m).bind fun x m => if recvOk t x m then (fs ρ m).bind fun xs m => mtW t x xs m else .bad
theorem rd_mt {t : Mt} {fo : En → Mem → R W} {fs : En → Mem → R (List W)} {σ : L2.St} {H : Hp} {Q : VK} (h : rdE Y (mtF t fo fs) σ H Q) : tMt (rTy Y t) (rMt Y t) (rdE Y fo) (rdA Y fs) σ H Q := by
  obtain ⟨ρ, m, g, s, e, h⟩ := h
  refine rd_step s e Ext0.refl h fun x m1 v H1 g1 s1 e1 rx E1 h1 => ?_
  split at h1
  · rename_i hr
    refine ⟨⟨g1, m1, x, s1, rx.1, hr⟩, rd_step s1 E1 e1 h1 fun xs m2 vs H2 g2 s2 e2 rxs E2 h2 => ?_⟩
    exact ⟨g2, m2, g, H, x, xs, σ, s2, e1.trans s1 e2, rx.1.keep s1 e2.1, RwA.back s1 e1.1 rxs, h2⟩
  · exact h1.elim
def mtT : Mt → String
  | .append => "list" | .extend => "list" | .join => "str" | .get => "dict" | .index => "list" | .count => "list"
theorem cell_ref {K : PySem.W.Frag} {w : World} {sx : Option (Addr × Nat)} {g : Gm} {H : Hp} {m : Mem} {n : Nat} {v : V} (s : Sr K w g H m) (rx : Rw K w sx g H (.ref n) v) : ∃ a, g.mu[n]? = some a ∧ v = .ref a := rx
theorem lst_recv {t : Mt} {x : W} {m : Mem} (h : recvOk t x m = true) (ht : t = .append ∨ t = .extend) : ∃ n xs, x = .ref n ∧ m[n]? = some (.lst xs) := by
  cases x with
  | ref n =>
    rcases ht with rfl | rfl <;>
    · unfold recvOk at h
      dsimp only at h
      split at h
      · rename_i xs e
        exact ⟨n, xs, rfl, e⟩
      · cases h
  | _ => rcases ht with rfl | rfl <;> exact absurd h Bool.false_ne_true
theorem mtTy (t : Mt) : MtTy Y.X (mtT t) (rTy Y t) := by
  intro pins s σ H v u I rv ⟨g, m, x, S, rx, hr⟩
  have lst : (t = .append ∨ t = .extend) → s.TypeIs u "list" ∧ ∀ a, u = .ref a → ∃ ob, s.heap.get? a = some ob ∧ ob.dict = none := fun ht => by
    obtain ⟨n, xs, rfl, e⟩ := lst_recv hr ht
    obtain ⟨a, ha, rfl⟩ := cell_ref S rx
    obtain ⟨vs, hv, _⟩ := S.cell n a _ ha e
    exact tyV_is I rv (.inl ⟨rfl, vs, .inl (.inl hv)⟩)
  cases t with
  | append => exact lst (.inl rfl)
  | extend => exact lst (.inr rfl)
  | join =>
    unfold recvOk at hr
    split at hr <;> first | (rename_i z; cases z; done) | (cases hr; done) | skip
    rename_i y _
    obtain ⟨rfl, _⟩ := Rp.strI (show Rp _ _ _ _ (.str _) v from rx)
    exact tyV_is I rv rfl
  | get =>
    have hr : (dictR m x).isSome = true := hr
    cases ed : dictR m x with
    | none => rw [ed] at hr; cases hr
    | some kvs =>
      obtain ⟨a, ks, rfl, ha, _⟩ := dictR_at S rx ed
      cases rv
      obtain ⟨_, _, _, dd⟩ := dict_of I ha
      obtain ⟨o, _, _, e, ex, _⟩ := id dd
      exact ⟨dd.typeIs, fun b eb => by cases eb; exact ⟨o, e, ex.2.1⟩⟩
  | index => exact absurd hr Bool.false_ne_true
  | count => exact absurd hr Bool.false_ne_true
/-! ### each method -/
def mtI : Mt → String
  | .append => "list.append" | .extend => "list.extend" | .join => "str.join" | .get => "dict.get" | .index => "list.index" | .count => "list.count"
theorem cell_lst {K : PySem.W.Frag} {w : World} {g : Gm} {H : Hp} {m : Mem} {n : Nat} {a : Addr} {ds : List PyData} (S : Sr K w g H m) (ha : g.mu[n]? = some a) (e : m[n]? = some (.lst ds)) : ∃ vs, H a = some (.lst vs) ∧ vs.length ≤ LINE ∧ RpA K w H g.fz ds vs := S.cell n a _ ha e
theorem mt_appendY : MtR Y.X "list.append" (rMt Y .append) := by
  intro pins s σ H v vs u us Q I rv rs ⟨g, m, g0, H0, x, xs, σ', S, E0, rx, rxs, q⟩
  unfold mtW at q
  split at q <;> first | (rename_i z; cases z; done) | (exact q.elim) | skip
  rename_i n y _
  obtain ⟨a, ha, rfl⟩ := cell_ref S rx
  obtain ⟨b, rfl, rb, fb⟩ := rxs.oneI
  split at q
  · rename_i ds d e1 e2
    split at q
    · rename_i hz
      obtain ⟨ws, hw, hl, r⟩ := cell_lst S ha e1
      have hlen := r.length
      refine mt_append pins s σ H _ _ u us Q I rv rs ⟨a, ws, b, rfl, rfl, hw, by rw [line_eq]; omega, ?_⟩
      have S2 := ice_sr (H0 := H0) S
      have k := put_keeps (h := .lst (ws ++ [b])) S2 ha
      have hf : ¬ g.lk a := S.free ha e1 fun _ z => nomatch z
      refine q.nonD (S2.put ha hf (fun _ z => nomatch z) ⟨ws ++ [b], upd_same, ?_, (RpA.append (r.keep ice_keeps) (.cons (ice_laid rb fb e2) .nil)).keep k⟩) (Ext0.put (ice_ext E0) ha hf)
      rw [List.length_append, List.length_singleton]
      omega
    · exact q.elim
  · exact q.elim
theorem mt_extendY : MtR Y.X "list.extend" (rMt Y .extend) := by
  intro pins s σ H v vs u us Q I rv rs ⟨g, m, g0, H0, x, xs, σ', S, E0, rx, rxs, q⟩
  unfold mtW at q
  split at q <;> first | (rename_i z; cases z; done) | (exact q.elim) | skip
  rename_i n y _
  obtain ⟨a, ha, rfl⟩ := cell_ref S rx
  obtain ⟨b, rfl, rb, fb⟩ := rxs.oneI
  split at q
  · rename_i ds d e1 e2
    split at q
    · rename_i hz
      obtain ⟨ws, hw, hl, r⟩ := cell_lst S ha e1
      obtain ⟨b, us', rfl, hb, hl2, r2⟩ := list_at S rb e2
      have hlen := r.length
      have hlen2 := r2.length
      refine mt_extend pins s σ H _ _ u us Q I rv rs ⟨a, b, ws, us', rfl, rfl, hw, hb, by rw [line_eq]; omega, ?_⟩
      have k := put_keeps (h := .lst (ws ++ us')) S ha
      have hf : ¬ g.lk a := S.free ha e1 fun _ z => nomatch z
      refine q.nonD (S.put ha hf (fun _ z => nomatch z) ⟨ws ++ us', upd_same, ?_, (RpA.append r r2).keep k⟩) (Ext0.put E0 ha hf)
      rw [List.length_append]
      omega
    · exact q.elim
  · exact q.elim
theorem mt_joinY : MtR Y.X "str.join" (rMt Y .join) := by
  intro pins s σ H v vs u us Q I rv rs ⟨g, m, g0, H0, x, xs, σ', S, E0, rx, rxs, q⟩
  unfold mtW at q
  split at q <;> first | (rename_i z; cases z; done) | (exact q.elim) | skip
  rename_i z y _
  obtain ⟨rfl, kz⟩ := Rp.strI (show Rp _ _ _ _ (.str z) v from rx)
  obtain ⟨b, rfl, rb, fb⟩ := rxs.oneI
  cases el : listOf m y with
  | none => rw [el] at q; exact q.elim
  | some ds =>
    rw [el, Option.bind_some] at q
    cases es : strL ds with
    | none => rw [es] at q; exact q.elim
    | some ss =>
      rw [es] at q
      dsimp only at q
      split at q
      · rename_i hz
        obtain ⟨a, ws, rfl, hw, hl, r⟩ := list_at S rb el
        obtain ⟨rfl, hk⟩ := r.txts es
        have hz' : (ss.map (·.length)).sum + ss.length * z.length ≤ 16777216 := by
          have h2 : joinLen z ss ≤ LINE := hz
          unfold joinLen at h2
          rw [Nat.mul_comm ss.length]
          exact h2
        refine mt_join pins s σ H _ _ u us Q I rv rs ⟨z, a, ss, rfl, rfl, .inl (SqL.of hw), hz', ?_⟩
        show Q (.str (Builtin.Str.glued z ss)) H
        rw [StrLaws.glued_eq_join]
        refine q.strD S E0 ⟨Nat.le_trans (StrLaws.join_length_le z ss) hz', sg_iff.mpr (sg_join z (sg_iff.mp kz.2) ss fun x hx => sg_iff.mp (hk x hx).2)⟩
      · exact q.elim
theorem mt_getY : MtR Y.X "dict.get" (rMt Y .get) := by
  intro pins s σ H v vs u us Q I rv rs ⟨g, m, g0, H0, x, xs, σ', S, E0, rx, rxs, q⟩
  unfold mtW at q
  split at q <;> first | (rename_i z; cases z; done) | (exact q.elim) | skip
  · rename_i x _ _ _ k _
    cases ed : dictR m x with
    | none => rw [ed] at q; exact q.elim
    | some kvs =>
      rw [ed] at q
      dsimp only at q
      split at q
      · rename_i hk
        obtain ⟨b, rfl, rb, _⟩ := rxs.oneI
        obtain ⟨rfl, _⟩ := Rp.strI (show Rp _ _ _ _ (.str k) b from rb)
        obtain ⟨a, ks, rfl, ha, _, r⟩ := dictR_at S rx ed
        cases rv
        obtain ⟨u1, rfl, ru⟩ := vals1 rs
        obtain ⟨t, rfl⟩ := ru
        obtain ⟨hs, ws, kv, dd⟩ := dict_of I ha
        refine call_meetsIn PySem.F.slot_dict_get dd.typeIs PySem.F.entry_dict_get (PySem.F.args_dict_get_2 _ _) (meets_dict_get (mixKind Y.X.prog Y.X.w) a (mixKind_str _ _ k t) hs) ⟨_, dd.mapOf, ?_⟩
        have rel := (kv.val (Sum.inr k)).getD (d := .non) (d' := .none) rfl
        refine ⟨_, H, I.tok _, rel, ?_⟩
        rcases look_rel k r hk with ⟨h1, h2⟩ | ⟨d, u, h1, h2, rr⟩
        · rw [h1] at q
          rw [h2]
          exact q.nonD S E0
        · rw [h1] at q
          rw [h2]
          exact q.doneV S E0 rr
      · exact q.elim
  · rename_i x _ _ _ k d _
    cases ed : dictR m x with
    | none => rw [ed] at q; exact q.elim
    | some kvs =>
      rw [ed] at q
      dsimp only at q
      split at q
      · rename_i hk
        obtain ⟨b, c, rfl, rb, rc⟩ := rxs.twoI
        obtain ⟨rfl, _⟩ := Rp.strI (show Rp _ _ _ _ (.str k) b from rb)
        obtain ⟨a, ks, rfl, ha, _, r⟩ := dictR_at S rx ed
        cases rv
        obtain ⟨u1, u2, rfl, ru, ru2⟩ := vals2 rs
        obtain ⟨t, rfl⟩ := ru
        obtain ⟨hs, ws, kv, dd⟩ := dict_of I ha
        refine call_meetsIn PySem.F.slot_dict_get dd.typeIs PySem.F.entry_dict_get (PySem.F.args_dict_get_3 _ _ _) (meets_dict_get_default (mixKind Y.X.prog Y.X.w) a (mixKind_str _ _ k t) hs u2) ⟨_, dd.mapOf, ?_⟩
        have rel := (kv.val (Sum.inr k)).getD ru2
        refine ⟨_, H, I.tok _, rel, ?_⟩
        rcases look_rel k r hk with ⟨h1, h2⟩ | ⟨d2, u, h1, h2, rr⟩
        · rw [h1] at q
          rw [h2]
          exact q.doneV S E0 (show Rv Y.X.K Y.X.w Y.sx g H (.d d) c from rc)
        · rw [h1] at q
          rw [h2]
          exact q.doneV S E0 rr
      · exact q.elim
def mtN : Mt → Str
  | .append => "append" | .extend => "extend" | .join => "join" | .get => "get" | .index => "index" | .count => "count"
theorem snd_mt (t : Mt) (ht : t = .append ∨ t = .extend ∨ t = .join ∨ t = .get) {o e : Expr} {es : List Expr} {apos cpos : Pos} {fo : En → Mem → R W} {fs : En → Mem → R (List W)} (ho : PE Y.X o (rdE Y fo)) (ha : PA Y.X (e :: es) (rdA Y fs))
    (hbase : attributeBase o (mtN t) Y.X.env (eval o Y.X.env) = eval o Y.X.env) (hn : (e :: es).all noStar = true) (hl : (e :: es).length < 30) (hline : (apos.endLine == cpos.line) = true) :
    PE Y.X (.Call (.Attribute o (mtN t) apos) (e :: es) [] cpos) (rdE Y (mtF t fo fs)) := by
  rcases ht with rfl | rfl | rfl | rfl
  · exact (pe_mY F.plainAttrs_list F.slot_list_append F.type_list_append (mtTy .append) mt_appendY ho ha hbase hn hl hline).imp fun σ H Q h => rd_mt h
  · exact (pe_mY F.plainAttrs_list F.slot_list_extend F.type_list_extend (mtTy .extend) mt_extendY ho ha hbase hn hl hline).imp fun σ H Q h => rd_mt h
  · exact (pe_mY F.plainAttrs_str F.slot_str_join F.type_str_join (mtTy .join) mt_joinY ho ha hbase hn hl hline).imp fun σ H Q h => rd_mt h
  · exact (pe_mY F.plainAttrs_dict F.slot_dict_get F.type_dict_get (mtTy .get) mt_getY ho ha hbase hn hl hline).imp fun σ H Q h => rd_mt h
end Lo
/-! Calls of the text's own defs. -/
namespace Lo
open PySem PySem.Spec PyProof.Rows L2
variable {Y : Cy}
/-- a def's promise where nothing is being shown -/
structure FnG (P : Program) (w : World) (K : PySem.W.Frag) (mg : Str → Option Value) (base : Heap) (CX : CXT) (k : Nat) (f : Addr) (fd : FuncData) (ps : List Str) (sp : Sp) : Prop where
  len : ∀ vs H Q E, sp vs H Q E → vs.length = ps.length
  run : ∀ (A : Around) (outer : List Env) (s : Shared) (H : Hp) (args : Args) (us : List Value) (vs : List V) (Q : VK) (E : XK), Room k A → A.guards = some [] → Env0 P w K mg base A outer s H → BindsTo s fd args (ps.zip us) → Vals vs us → sp vs H Q E →
    codeAny (model P w) A (.call (.ref f) args) (CR CX outer P w H s Q E) s
theorem FnG.mono {P : Program} {w : World} {K : PySem.W.Frag} {mg : Str → Option Value} {base : Heap} {CX : CXT} {j k : Nat} {f : Addr} {fd : FuncData} {ps : List Str} {sp : Sp} (F : FnG P w K mg base CX j f fd ps sp) (h : j ≤ k) :
    FnG P w K mg base CX k f fd ps sp := ⟨F.len, fun A outer s H args us vs Q E hr => F.run A outer s H args us vs Q E (hr.mono h)⟩
section
variable {X : Cx} {CX : CXT} {k : Nat} {f : Addr} {fd : FuncData} {ps : List Str} {sp : Sp} {dvs : List V} {ds : List Value} {E : L2.St → XK} {x : Str} {p pos : Pos} {e : Expr} {es : List Expr} {t : TA}
theorem run_fnG {pins : List (Addr × Obj)} {σ : L2.St} {H : Hp} {s : Shared} {Q : VK} {us : List Value} {vs : List V} (F : FnG X.prog X.w X.K X.mg X.base CX k f fd ps sp) (hr : Room k X.A) (hG : X.A.guards = some []) (hb : Binds X.K fd ps ds) (hd : Vals dvs ds) (hx : PassesAt CX X σ (E σ))
    (I : Inv X pins σ H s) (r : Vals vs us) (h : sp (vs ++ dvs) H Q (E σ)) : wpAny (model X.prog X.w) X.A (call (.ref f) us) (EP X pins σ Q) X.xe s := by
  have r2 : Vals (vs ++ dvs) (us ++ ds) := r.append hd
  refine wpAny_call (codeAny_mono (F.run X.A X.stack s H ⟨us, []⟩ (us ++ ds) (vs ++ dvs) Q (E σ) hr hG I.env0 (hb s us I.kIn (by rw [← r2.length]; exact F.len _ _ _ _ h)) r2 h) fun r s' hq => ?_)
  match r, hq with
  | .error e, hq => exact hx pins H s e s' I hq
  | .ok (.ret u), hq => exact I.after hq
  | .ok .next, hq => exact False.elim hq
  | .ok .brk, hq => exact False.elim hq
  | .ok .cont, hq => exact False.elim hq
theorem pe_callG (F : FnG X.prog X.w X.K X.mg X.base CX k f fd ps sp) (hr : Room k X.A) (hG : X.A.guards = some []) (hg : Gl X x) (hm : X.mg x = some (.ref f)) (hk : PySem.W.keepIn X.K (.ref f) = true) (hb : Binds X.K fd ps ds) (hd : Vals dvs ds) (hx : ∀ σ, PassesAt CX X σ (E σ))
    (ha : PA X (e :: es) t) (hdb : (x == ("__debug__" : Str)) = false) (hn : (e :: es).all noStar = true) :
    PE X (.Call (.Name x p) (e :: es) [] pos) (tCallSD sp dvs E t) := by
  rw [List.all_cons, Bool.and_eq_true] at hn
  refine ⟨fun pins s σ H Q I h => wpAny_Call_Name_kw (ld_glob I hg hm ?_ hdb)⟩
  exact PySem.W.callWith_K (h₀ := X.base) I.ok.mod.kin hk (thn (ha.run pos pins s σ H _ I h) fun us s1 ⟨vs, H1, I1, r, q⟩ => ⟨I1.kIn, run_fnG F hr hG hb hd (hx σ) I1 r q⟩) (star_cons hn.1) (star_any hn.2)
end
/-- THE RULE for a def, by its body -/
theorem fn_ofG {CX : CXT} {P : Program} {w : World} {K : PySem.W.Frag} {mg : Str → Option Value} {base : Heap} {k : Nat} {f : Addr} {name qual : Str} {params : Arguments} {body : List Stmt} {scope : Scope} {dV kV doc pm cdv ct oc : Value} {an od : Option Addr}
    {osl : Array (Option Value)} {N ps : List Str} {sp : Sp} (lk : K.lookup f = some ⟨oc, od, .func (PySem.W.fnOf name qual params body scope dV kV doc pm an cdv ct), osl⟩) (hcd : PySem.W.codeIn K cdv qual = true) (S : FnScope N ps scope)
    (len : ∀ vs H Q E, sp vs H Q E → vs.length = ps.length)
    (hbody : ∀ (A : Around) (outer : List Env) (s : Shared) (H : Hp) (vs : List V) (Q : VK) (E : XK), Room k (A.deeper (envOfC qual scope s.heap.objs.size f cdv)) → A.guards = some [] → sp vs H Q E →
      ∃ t, PSs (cxOf CX P w K mg base N qual scope f cdv A outer s H E) body t ∧ t { nx := fun _ H' => Q .non H', rt := Q } (start N vs) H) :
    FnG P w K mg base CX (k + 1) f (PySem.W.fnOf name qual params body scope dV kV doc pm an cdv ct) ps sp := by
  refine ⟨len, fun A outer s H args us vs Q E hr hG e0 hb r hsp => ?_⟩
  have KX : K.In s.heap := e0.mod.kin.keeps fun b o e => (e0.bs b o e).1
  refine codeAny_call_function hr.depth (KX _ _ lk) rfl S.co S.gen rfl (PySem.W.codeRec_of KX hcd) (hb _ _ _ _ ?_)
  refine wpAny_newFunctionEnv_cells S.kind (fun ⟨n, v⟩ hy => ?_) fun env he s1 x => ?_
  · exact (S.par n (List.of_mem_zip hy).1).imp id fun q => ⟨q, PySem.W.cellsFrom_some _ _ _ (.inl q)⟩
  subst he
  refine ⟨(e0.mod.nolimit.keeps fun b o e => (e0.bs b o e).1).keeps x.toInCall.keep, codeAny_func ?_⟩
  obtain ⟨t, ht, hq⟩ := hbody A outer s H vs Q E (hr.deeper _) hG hsp
  refine wpAny_mono (ht.run [] s1 (start N vs) H _ (inv_start S hr.hd e0 (len _ _ _ _ hsp) r x) hq) (fun fl s' hs => ?_) fun e s' hs => hs
  match fl, hs with
  | .ret u, ⟨v, σ', H', J, rv, q⟩ => exact ⟨v, H', J.os, J.bare, J.base, J.hok, rv, q⟩
  | .next, ⟨σ', H', J, q⟩ => exact ⟨V.non, H', J.os, J.bare, J.base, J.hok, rfl, q⟩
  | .brk, ⟨_, _, _, q⟩ => exact False.elim q
  | .cont, ⟨_, _, _, q⟩ => exact False.elim q
theorem guards_deeper (A : Around) (env : Env) : (A.deeper env).guards = A.guards := rfl
/-! ### the promise by the small language -/
/-- the arguments as they stand -/
inductive RvL (K : PySem.W.Frag) (w : World) (g : Gm) (H : Hp) : List W → List V → Prop
  | nil : RvL K w g H [] []
  | cons {x : W} {v : V} {xs : List W} {vs : List V} : Rv K w none g H x v → RvL K w g H xs vs → RvL K w g H (x :: xs) (v :: vs)
/-- what is wanted of a call's end; cx: the classes -/
def PstC (K : PySem.W.Frag) (w : World) (cx : Nat → Value) (g : Gm) (H : Hp) (r : R W) (Q : VK) (E : XK) : Prop := match r with
  | .ok a m' => ∀ b H' g', Sr K w g' H' m' → Ext0 g H g' H' → Rw K w none g' H' a b → Fresh H a b → Q b H'
  | .exc c m' => ∀ (_ : Unit) H' g', Sr K w g' H' m' → Ext0 g H g' H' → E (cx c) none H'
  | .bad => False
def spC (K : PySem.W.Frag) (w : World) (cx : Nat → Value) (np : Nat) (f : List W → Mem → R W) : Sp := fun vs H Q E =>
  vs.length = np ∧ ∃ g m xs, Sr K w g H m ∧ RvL K w g H xs vs ∧ PstC K w cx g H (f xs m) Q E
theorem ice_handed {K : PySem.W.Frag} {w : World} {sx : Option (Addr × Nat)} {g : Gm} {H0 H : Hp} {x y : W} {v : V} (r : Rw K w sx g H x v) (f : Fresh H0 x v) (h : handed x = some y) : Rv K w none (g.ice H0 H) H y v := by
  cases x with
  | new xs => cases h; exact ice_laid r f rfl
  | newd xs => cases h; exact ice_laid r f rfl
  | d x => cases h; exact Rp.keep ice_keeps (show Rp K w H g.fz x v from r)
  | ref n => cases h; exact r
  | ro xs => cases h; obtain ⟨a, o, vs, h1, h2, z, r⟩ := r; exact ⟨a, o, vs, h1, h2, z, r.keep ice_keeps⟩
  | rod xs => cases h; obtain ⟨a, vs, h1, h2, z, r⟩ := r; exact ⟨a, vs, h1, h2, z, r.keep ice_keeps⟩
  | it xs => cases h
  | exc c => cases h
theorem ice_handAll {K : PySem.W.Frag} {w : World} {sx : Option (Addr × Nat)} {g : Gm} {H0 H : Hp} : ∀ {xs ys : List W} {vs : List V}, RwA K w sx g H0 H xs vs → handAll xs = some ys → RvL K w (g.ice H0 H) H ys vs
  | _, _, _, .nil, h => by cases h; exact .nil
  | _, _, _, .cons (x := x) (xs := xs) a b c, h => by
    unfold handAll at h
    cases e1 : handed x with
    | none => simp only [e1] at h; cases h
    | some y =>
      cases e2 : handAll xs with
      | none => simp only [e1, e2] at h; cases h
      | some ys =>
        simp only [e1, e2] at h
        cases h
        exact .cons (ice_handed a b e1) (ice_handAll c e2)
theorem RvL.length {K : PySem.W.Frag} {w : World} {g : Gm} {H : Hp} {xs : List W} {vs : List V} (h : RvL K w g H xs vs) : xs.length = vs.length := by
  induction h with
  | nil => rfl
  | cons _ _ ih => rw [List.length_cons, List.length_cons, ih]
theorem rw_none {K : PySem.W.Frag} {w : World} {sx : Option (Addr × Nat)} {g : Gm} {H : Hp} {x : W} {v : V} (h : Rw K w none g H x v) : Rw K w sx g H x v := by
  cases x with
  | exc c => obtain ⟨a, e, _⟩ := (show ∃ a, (none : Option (Addr × Nat)) = some (a, c) ∧ v = .ref a from h); cases e
  | _ => exact h
def callF1 (f : List W → Mem → R W) (fs : En → Mem → R (List W)) : En → Mem → R W := fun ρ m => (fs ρ m).bind fun xs m => match handAll xs with
    | some xs => f xs m
    | none => .bad
theorem RvL.app {K : PySem.W.Frag} {w : World} {g : Gm} {H : Hp} {xs ys : List W} {vs us : List V} (h : RvL K w g H xs vs) (h2 : RvL K w g H ys us) : RvL K w g H (xs ++ ys) (vs ++ us) := by
  induction h with
  | nil => exact h2
  | cons a _ ih => exact .cons a ih
theorem RvL.data {K : PySem.W.Frag} {w : World} {g : Gm} {H : Hp} : ∀ {ds : List PyData} {us : List V}, RpA K w H g.fz ds us → RvL K w g H (ds.map .d) us
  | _, _, .nil => .nil
  | _, _, .cons a b => .cons a (RvL.data b)
theorem handAll_app (ds : List PyData) : ∀ xs : List W, handAll (xs ++ ds.map .d) = (handAll xs).map fun ys => ys ++ ds.map .d
  | [] => by
    show handAll (ds.map .d) = some (ds.map .d)
    induction ds with
    | nil => rfl
    | cons d ds ih => rw [List.map_cons]; unfold handAll; simp only [handed, ih]
  | x :: xs => by
    rw [List.cons_append]
    unfold handAll
    rw [handAll_app ds xs]
    cases handed x with
    | none => rfl
    | some y => cases handAll xs <;> rfl
def moreF (kw : List PyData) (fs : En → Mem → R (List W)) : En → Mem → R (List W) := fun ρ m => (fs ρ m).bind fun xs m => .ok (xs ++ kw.map .d) m
/-- f(e, ..): what is not written has its default -/
theorem snd_call {CX : CXT} {k np : Nat} {f : Addr} {fd : FuncData} {ps : List Str} {x : Str} {p pos : Pos} {e : Expr} {es : List Expr} {fs : En → Mem → R (List W)} {ff : List W → Mem → R W} {dvs : List V} {ds : List Value} {kw : List PyData}
    (G : Gd Y) (tk : Takes Y.X Y.Wx) (F : FnG Y.X.prog Y.X.w Y.X.K Y.X.mg Y.X.base (L2.CX Y.X.prog Y.X.w) k f fd ps (spC Y.X.K Y.X.w Y.cx np ff)) (hr : Room k Y.X.A) (hg : Gl Y.X x) (hm : Y.X.mg x = some (.ref f)) (hk : PySem.W.keepIn Y.X.K (.ref f) = true) (hb : Binds Y.X.K fd ps ds) (hd : Vals dvs ds) (hkw : ∀ H fz, RpA Y.X.K Y.X.w H fz kw dvs)
    (ha : PA Y.X (e :: es) (rdA Y fs)) (hnp : ∀ ρ m xs m', fs ρ m = .ok xs m' → xs.length + kw.length = np) (hdb : (x == ("__debug__" : Str)) = false) (hn : (e :: es).all noStar = true) : PE Y.X (.Call (.Name x p) (e :: es) [] pos) (rdE Y (callF1 ff (moreF kw fs))) :=
  (pe_callG (E := WE Y.Wx) F hr G.gu hg hm hk hb hd (passAt tk) ha hdb hn).imp fun σ H Q ⟨ρ, m, g, s, e, h⟩ => by
    have h : Pst Y (relW Y) g H σ (((fs ρ m).bind fun xs m => .ok (xs ++ kw.map .d) m).bind fun xs m => match handAll xs with
      | some xs => ff xs m
      | none => .bad) Q := h
    refine ⟨ρ, m, g, s, e, ?_⟩
    cases q : fs ρ m with
    | exc c m1 => rw [q] at h; exact h
    | bad => rw [q] at h; exact h
    | ok xs m1 =>
      have hl := hnp ρ m xs m1 q
      rw [q] at h
      intro vs H1 g1 s1 e1 rx
      have rx : RwA Y.X.K Y.X.w Y.sx g1 H H1 xs vs := rx
      have h1 : Pst Y (relW Y) g H σ (match handAll (xs ++ kw.map .d) with
        | some xs => ff xs m1
        | none => .bad) Q := h
      rw [handAll_app] at h1
      cases qa : handAll xs with
      | none => rw [qa] at h1; exact h1.elim
      | some ys =>
        rw [qa] at h1
        have rk := (hkw H1 (g1.ice H H1).fz)
        have lk := rk.length
        refine ⟨by rw [List.length_append, ← rx.length, ← lk]; exact hl, g1.ice H H1, m1, ys ++ kw.map .d, ice_sr s1, (ice_handAll rx qa).app (.data rk), ?_⟩
        have e2 := ice_ext (H := H1) e1
        have s2 := ice_sr (H0 := H) s1
        have h1 : Pst Y (relW Y) g H σ (ff (ys ++ kw.map .d) m1) Q := h1
        cases qf : ff (ys ++ kw.map .d) m1 with
        | ok a m2 =>
          rw [qf] at h1
          exact fun b H2 g2 s3 e3 r f => h1 b H2 g2 s3 (e2.trans s2 e3) ⟨rw_none r, f.back s2 e2.1⟩
        | exc c m2 =>
          rw [qf] at h1
          exact fun d H2 g2 s3 e3 => h1 d H2 g2 s3 (e2.trans s2 e3)
        | bad => rw [qf] at h1; exact h1
end Lo
/-! What a loop walks, where it stores. -/
namespace Lo
open PySem PySem.Spec PyProof.Rows L2
variable {Y : Cy}
/-! ### locks -/
def Gm.lock (g : Gm) : Option Nat → Gm
  | none => g
  | some n => ⟨g.mu, g.fz, fun a => g.lk a ∨ g.mu[n]? = some a⟩
def Gm.relk (g : Gm) (l : Addr → Prop) : Gm := ⟨g.mu, g.fz, l⟩
section
variable {K : PySem.W.Frag} {w : World} {sx : Option (Addr × Nat)} {g g0 g1 : Gm} {H H0 H1 : Hp} {m m1 : Mem} {k : Option Nat}
theorem lockOf_some {x : W} {n : Nat} (h : lockOf m x = some n) : x = .ref n ∧ ∃ xs, m[n]? = some (.lst xs) := by
  cases x with
  | ref i =>
    unfold lockOf at h
    dsimp only at h
    split at h
    · rename_i xs e; cases h; exact ⟨rfl, xs, e⟩
    · cases h
  | _ => cases h
theorem cr_lk {fz : Addr → Prop} {a : Addr} {ds : List PyData} : Cr K w H fz a (.lst ds) ↔ Cr K w H fz a (.lk ds) := Iff.rfl
/-- a state with a lock more -/
theorem Sr.lock (s : Sr K w g H m) (hk : ∀ n, k = some n → ∃ xs, m[n]? = some (.lst xs)) : Sr K w (g.lock k) H (lockM m k) := by
  cases k with
  | none => exact s
  | some n =>
    obtain ⟨xs, e⟩ := hk n rfl
    have em : lockM m (some n) = m.set n (.lk xs) := by unfold lockM; simp only [e]
    rw [em]
    have hl : n < m.length := (List.getElem?_eq_some_iff.mp e).1
    refine ⟨by rw [List.length_set]; exact s.len, s.nd, s.dis, s.fzs, fun j a o h1 h2 => ?_, fun j a o h1 h2 => ?_, fun a h => h.elim (s.lkm a) List.mem_of_getElem?⟩
    · by_cases ej : n = j
      · subst ej
        rw [List.getElem?_set_self hl] at h2
        cases h2
        have c := s.cell n a _ h1 e
        exact c
      · rw [List.getElem?_set_ne ej] at h2
        exact s.cell j a o h1 h2
    · by_cases ej : n = j
      · subst ej
        rw [List.getElem?_set_self hl] at h2
        cases h2
        exact ⟨fun _ => ⟨xs, rfl⟩, fun _ => .inr h1⟩
      · rw [List.getElem?_set_ne ej] at h2
        refine ⟨fun h3 => ?_, fun h3 => .inl ((s.lkd j a o h1 h2).mpr h3)⟩
        rcases h3 with h3 | h3
        · exact (s.lkd j a o h1 h2).mp h3
        · have h1' : g.mu[j]? = some a := h1
          exact absurd ((List.getElem?_inj (by rw [s.len]; exact hl) s.nd).mp (h3.trans h1'.symm)) ej
/-- .. and back -/
theorem Sr.unlock (s : Sr K w g H m) (x : Ext (g0.lock k) H0 g H) (hk : ∀ n, k = some n → n < g0.mu.length ∧ ∀ a, g0.mu[n]? = some a → ¬ g0.lk a) : Sr K w (g.relk g0.lk) H (unlockM m k) := by
  have hlk := x.lk
  obtain ⟨more, hmu, _⟩ := x.mu
  cases k with
  | none => exact ⟨s.len, s.nd, s.dis, s.fzs, s.cell, fun j a o h1 h2 => by have q := s.lkd j a o h1 h2; rw [hlk] at q; exact q, fun a h => s.lkm a (by rw [hlk]; exact h)⟩
  | some n =>
    obtain ⟨hn, hfree⟩ := hk n rfl
    have hmu' : g.mu = g0.mu ++ more := hmu
    have hlen : n < g.mu.length := by rw [hmu', List.length_append]; omega
    have hl : n < m.length := by rw [← s.len]; exact hlen
    obtain ⟨a, ha⟩ : ∃ a, g0.mu[n]? = some a := ⟨_, List.getElem?_eq_getElem hn⟩
    have hga : g.mu[n]? = some a := by rw [hmu', List.getElem?_append_left hn]; exact ha
    obtain ⟨xs, e⟩ := (s.lkd n a m[n] hga (List.getElem?_eq_getElem hl)).mp (by rw [hlk]; exact .inr ha)
    have em : unlockM m (some n) = m.set n (.lst xs) := by unfold unlockM; simp only [List.getElem?_eq_getElem hl, e]
    rw [em]
    refine ⟨by rw [List.length_set]; exact s.len, s.nd, s.dis, s.fzs, fun j b o h1 h2 => ?_, fun j b o h1 h2 => ?_, fun a h => s.lkm a (by rw [hlk]; exact .inl h)⟩
    · by_cases ej : n = j
      · subst ej
        rw [List.getElem?_set_self hl] at h2
        cases h2
        have c := s.cell n b m[n] h1 (List.getElem?_eq_getElem hl)
        rw [e] at c
        exact c
      · rw [List.getElem?_set_ne ej] at h2
        exact s.cell j b o h1 h2
    · by_cases ej : n = j
      · subst ej
        have h1' : g.mu[n]? = some b := h1
        rw [hga] at h1'
        cases h1'
        rw [List.getElem?_set_self hl] at h2
        cases h2
        exact ⟨fun h3 => absurd h3 (hfree a ha), fun ⟨_, q⟩ => nomatch q⟩
      · rw [List.getElem?_set_ne ej] at h2
        have q := s.lkd j b o h1 h2
        rw [hlk] at q
        refine ⟨fun h3 => q.mp (.inl h3), fun h3 => (q.mpr h3).resolve_right fun h4 => ?_⟩
        have h1' : g.mu[j]? = some b := h1
        rw [ha] at h4
        cases h4
        exact ej ((List.getElem?_inj hlen s.nd).mp (hga.trans h1'.symm))
theorem Ext.unlock (x : Ext (g0.lock k) H0 g H) : Ext g0 H0 (g.relk g0.lk) H := by
  cases k with
  | none => exact ⟨x.mu, x.fz, x.nfz, x.keep, rfl⟩
  | some n => exact ⟨x.mu, x.fz, x.nfz, fun a o h q => x.keep a o h (q.imp id .inl), rfl⟩
theorem Er.lock {ρ : En} {σ : L2.St} (h : Er K w sx g H ρ σ) : Er K w sx (g.lock k) H ρ σ := by
  refine ⟨h.len, fun i x q => ?_⟩
  obtain ⟨v, h1, h2⟩ := h.val i x q
  refine ⟨v, h1, ?_⟩
  cases k with
  | none => exact h2
  | some n => cases x <;> exact h2
theorem Er.relk {ρ : En} {σ : L2.St} {l : Addr → Prop} (h : Er K w sx g H ρ σ) : Er K w sx (g.relk l) H ρ σ := by
  refine ⟨h.len, fun i x q => ?_⟩
  obtain ⟨v, h1, h2⟩ := h.val i x q
  exact ⟨v, h1, by cases x <;> exact h2⟩
end
/-! ### an item of what is walked -/
/-- plain data, or a pair that was just made -/
def ItR (K : PySem.W.Frag) (w : World) (H : Hp) (fz : Addr → Prop) (d : PyData) (v : V) : Prop :=
  Rp K w H fz d v ∨ ∃ T da db a b, d = .tuple [da, db] ∧ v = .ref T ∧ H T = some (.tup [a, b]) ∧ Rp K w H fz da a ∧ Rp K w H fz db b
theorem ItR.seq {K : PySem.W.Frag} {w : World} {H : Hp} {fz : Addr → Prop} {ds : List PyData} {v : V} (h : ItR K w H fz (.tuple ds) v) : ∃ a vs, v = .ref a ∧ SqT K H a vs ∧ RpA K w H fz ds vs := by
  rcases h with h | ⟨T, da, db, a, b, e, rfl, h, r1, r2⟩
  · obtain ⟨a, vs, rfl, ha, _, r⟩ := h.tupI
    exact ⟨a, vs, rfl, ha.sq, r⟩
  · cases e
    exact ⟨T, [a, b], rfl, .inl (.inl h), .cons r1 (.cons r2 .nil)⟩
def tgSlots : Tg → List Nat
  | .v i => [i]
  | .t2 a b => tgSlots a ++ tgSlots b
  | .t3 a b c => tgSlots a ++ tgSlots b ++ tgSlots c
theorem wipe_set {σ : L2.St} {i : Nat} {x : Option V} : ∀ {vs : List Nat}, i ∈ vs → L2.wipe (σ.set i x) vs = L2.wipe σ vs
  | v :: vs, h => by
    unfold L2.wipe
    by_cases e : i = v
    · subst e
      by_cases hm : i ∈ vs
      · rw [wipe_set hm]
      · have : L2.wipe (σ.set i x) vs = (L2.wipe σ vs).set i x := wipe_out hm
        rw [this, List.set_set]
    · rw [wipe_set ((List.mem_cons.mp h).resolve_left e)]
where
  wipe_out {σ : L2.St} {i : Nat} {x : Option V} : ∀ {vs : List Nat}, i ∉ vs → L2.wipe (σ.set i x) vs = (L2.wipe σ vs).set i x
    | [], _ => rfl
    | v :: vs, h => by
      unfold L2.wipe
      rw [wipe_out fun q => h (List.mem_cons_of_mem _ q), List.set_comm]
      exact fun e => h (e ▸ List.mem_cons_self)
theorem wipe_mem {σ : L2.St} {v : Nat} : ∀ {vs : List Nat}, v ∈ vs → (L2.wipe σ vs).set v none = L2.wipe σ vs
  | u :: vs, h => by
    unfold L2.wipe
    by_cases e : u = v
    · subst e; rw [List.set_set]
    · rw [List.set_comm _ _ e, wipe_mem ((List.mem_cons.mp h).resolve_left fun q => e q.symm)]
theorem wipe_wipe (σ : L2.St) (vs : List Nat) : ∀ us : List Nat, (∀ u ∈ us, u ∈ vs) → L2.wipe (L2.wipe σ vs) us = L2.wipe σ vs
  | [], _ => rfl
  | u :: us, h => by
    show (L2.wipe (L2.wipe σ vs) us).set u none = _
    rw [wipe_wipe σ vs us fun x hx => h x (List.mem_cons_of_mem _ hx)]
    exact wipe_mem (h u List.mem_cons_self)
/-- only these slots differ -/
def Chg (is : List Nat) (σ σ' : L2.St) : Prop := ∀ vs, (∀ i ∈ is, i ∈ vs) → L2.wipe σ' vs = L2.wipe σ vs
theorem Chg.one (i : Nat) (σ : L2.St) (x : Option V) : Chg [i] σ (σ.set i x) := fun vs h => wipe_set (h i List.mem_cons_self)
theorem Chg.trans {is js : List Nat} {σ σ' σ'' : L2.St} (a : Chg is σ σ') (b : Chg js σ' σ'') : Chg (is ++ js) σ σ'' := fun vs h => (b vs fun i hi => h i (List.mem_append_right _ hi)).trans (a vs fun i hi => h i (List.mem_append_left _ hi))
/-! ### targets -/
/-- d is stored at the target; the heap stays -/
def gT (Y : Cy) (tg : Tg) : TG := fun v σ H Q => ∃ ρ g m d ρ', Sr Y.X.K Y.X.w g H m ∧ Er Y.X.K Y.X.w Y.sx g H ρ σ ∧ ItR Y.X.K Y.X.w H g.fz d v ∧ tgSet tg d ρ = some ρ' ∧ ∀ σ', Er Y.X.K Y.X.w Y.sx g H ρ' σ' → Chg (tgSlots tg) σ σ' → Q σ' H
/-- .. where it is data (a part of an item) -/
def gD (Y : Cy) (tg : Tg) : TG := fun v σ H Q => ∃ ρ g m d ρ', Sr Y.X.K Y.X.w g H m ∧ Er Y.X.K Y.X.w Y.sx g H ρ σ ∧ Rp Y.X.K Y.X.w H g.fz d v ∧ tgSet tg d ρ = some ρ' ∧ ∀ σ', Er Y.X.K Y.X.w Y.sx g H ρ' σ' → Chg (tgSlots tg) σ σ' → Q σ' H
theorem _root_.L2.PG.imp {X : Cx} {e : Expr} {t t' : TG} (h : PG X e t) (i : ∀ v σ H Q, t' v σ H Q → t v σ H Q) : PG X e t' := ⟨fun pins s σ H v u Q I r q => h.run pins s σ H v u Q I r (i v σ H Q q)⟩
theorem gD_of_gT {e : Expr} {tg : Tg} (h : PG Y.X e (gT Y tg)) : PG Y.X e (gD Y tg) := h.imp fun v σ H Q ⟨ρ, g, m, d, ρ', s, e, r, t, q⟩ => ⟨ρ, g, m, d, ρ', s, e, .inl r, t, q⟩
/-- a name as a target keeps data alone -/
theorem sng_name {i : Nat} {x : Str} {pos : Pos} (hN : Y.X.N.Nodup) (hi : Y.X.N[i]? = some x) (hx : Loc Y.X.env.scope x) (hf : Y.X.fn x = true ∨ Y.X.env.scope.names.lookup x = some .local) : PG Y.X (.Name x pos) (gD Y (.v i)) :=
  (pg_name hN hi hx hf).imp fun v σ H Q ⟨ρ, g, m, d, ρ', s, e, r, t, q⟩ => by
    cases t
    exact q _ (e.set i (x := .d d) r) (Chg.one i σ _)
theorem asg_cons {e : Expr} {es : List Expr} {env : Env} (h : noStar e = true) : assignEach (e :: es) env = (false, assign e env) :: assignEach es env := by
  cases e <;> first | rfl | (exact absurd h Bool.false_ne_true)
theorem asg_find {env : Env} : ∀ {es : List Expr}, es.all noStar = true → (assignEach es env).findIdx? (·.1) = none
  | [], _ => rfl
  | e :: es, h => by
    rw [List.all_cons, Bool.and_eq_true] at h
    rw [asg_cons h.1, List.findIdx?_cons, asg_find h.2]
    rfl
theorem asg_len {env : Env} : ∀ {es : List Expr}, es.all noStar = true → (assignEach es env).length = es.length
  | [], _ => rfl
  | e :: es, h => by
    rw [List.all_cons, Bool.and_eq_true] at h
    rw [asg_cons h.1, List.length_cons, asg_len h.2, List.length_cons]
theorem asg_map {e : Expr} {es : List Expr} {env : Env} (h : noStar e = true) : (assignEach (e :: es) env).map (·.2) = assign e env :: (assignEach es env).map (·.2) := by rw [asg_cons h]; rfl
theorem sng_tup2 {a b : Expr} {k : Nat} {pos : Pos} {ta tb : Tg} (C : Y.X.calm = true) (ha : PG Y.X a (gD Y ta)) (hb : PG Y.X b (gD Y tb)) (na : noStar a = true) (nb : noStar b = true) : PG Y.X (.Tuple [a, b] k pos) (gT Y (.t2 ta tb)) := by
  have hal : [a, b].all noStar = true := by rw [List.all_cons, List.all_cons, na, nb]; rfl
  have hlen := asg_len (env := Y.X.env) hal
  have hst := asg_find (env := Y.X.env) hal
  have p := pgs_cons ha (pgs_cons hb pgs_nil (asg_map nb)) (asg_map na)
  have seq : ∀ {v : V} {σ : L2.St} {H : Hp} {Q : L2.St → Hp → Prop} {ρ : En} {g : Gm} {m : Mem} {da db : PyData} {ρ' : En} {vs : List V}, Sr Y.X.K Y.X.w g H m → Er Y.X.K Y.X.w Y.sx g H ρ σ → RpA Y.X.K Y.X.w H g.fz [da, db] vs → (tgSet ta da ρ).bind (tgSet tb db) = some ρ' →
      (∀ σ', Er Y.X.K Y.X.w Y.sx g H ρ' σ' → Chg (tgSlots (.t2 ta tb)) σ σ' → Q σ' H) → vs.length = 2 ∧ gCons (gD Y ta) (gCons (gD Y tb) gNil) vs σ H Q := fun {v σ H Q ρ g m da db ρ' vs} s e r t q => by
    cases r with
    | cons r1 r =>
      cases r with
      | cons r2 r =>
        cases r
        cases e1 : tgSet ta da ρ with
        | none => rw [e1] at t; cases t
        | some ρ1 =>
          rw [e1, Option.bind_some] at t
          refine ⟨rfl, _, _, rfl, ρ, g, m, da, ρ1, s, e, r1, e1, fun σ1 E1 c1 => ⟨_, _, rfl, ρ1, g, m, db, ρ', s, E1, r2, t, fun σ2 E2 c2 => ⟨rfl, q σ2 E2 (c1.trans c2)⟩⟩⟩
  refine ⟨fun pins s σ H v u Q I rv ⟨ρ, g, m, d, ρ', S, E, r, t, q⟩ => ?_⟩
  cases d with
  | tuple ds =>
    match ds, t, r with
    | [da, db], t, r =>
      obtain ⟨a, vs, rfl, hv, rr⟩ := r.seq
      obtain ⟨h1, h2⟩ := seq (v := .ref a) S E rr t q
      exact (pg_tup (n := 2) C p hlen hst).run pins s σ H _ u Q I rv ⟨a, vs, rfl, hv, h1, h2⟩
    | [], t, r => cases t
    | [_], t, r => cases t
    | _ :: _ :: _ :: _, t, r => cases t
  | list ds =>
    match ds, t, r with
    | [da, db], t, r =>
      rcases r with r | ⟨_, _, _, _, _, e, _⟩
      · obtain ⟨a, vs, rfl, hv, _, rr⟩ := r.lstI
        obtain ⟨h1, h2⟩ := seq (v := .ref a) S E rr t q
        exact (pg_lst (n := 2) C p hlen hst).run pins s σ H _ u Q I rv ⟨a, vs, rfl, hv.sq, h1, h2⟩
      · cases e
    | [], t, r => cases t
    | [_], t, r => cases t
    | _ :: _ :: _ :: _, t, r => cases t
  | _ => cases t
theorem sng_tup3 {a b c : Expr} {k : Nat} {pos : Pos} {ta tb tc : Tg} (C : Y.X.calm = true) (ha : PG Y.X a (gD Y ta)) (hb : PG Y.X b (gD Y tb)) (hc : PG Y.X c (gD Y tc)) (na : noStar a = true) (nb : noStar b = true) (nc : noStar c = true) : PG Y.X (.Tuple [a, b, c] k pos) (gT Y (.t3 ta tb tc)) := by
  have hal : [a, b, c].all noStar = true := by rw [List.all_cons, List.all_cons, List.all_cons, na, nb, nc]; rfl
  have hlen := asg_len (env := Y.X.env) hal
  have hst := asg_find (env := Y.X.env) hal
  have p := pgs_cons ha (pgs_cons hb (pgs_cons hc pgs_nil (asg_map nc)) (asg_map nb)) (asg_map na)
  have seq : ∀ {σ : L2.St} {H : Hp} {Q : L2.St → Hp → Prop} {ρ : En} {g : Gm} {m : Mem} {da db dc : PyData} {ρ' : En} {vs : List V}, Sr Y.X.K Y.X.w g H m → Er Y.X.K Y.X.w Y.sx g H ρ σ → RpA Y.X.K Y.X.w H g.fz [da, db, dc] vs → ((tgSet ta da ρ).bind (tgSet tb db)).bind (tgSet tc dc) = some ρ' →
      (∀ σ', Er Y.X.K Y.X.w Y.sx g H ρ' σ' → Chg (tgSlots (.t3 ta tb tc)) σ σ' → Q σ' H) → vs.length = 3 ∧ gCons (gD Y ta) (gCons (gD Y tb) (gCons (gD Y tc) gNil)) vs σ H Q := fun {σ H Q ρ g m da db dc ρ' vs} s e r t q => by
    cases r with
    | cons r1 r =>
      cases r with
      | cons r2 r =>
        cases r with
        | cons r3 r =>
          cases r
          cases e1 : tgSet ta da ρ with
          | none => rw [e1] at t; cases t
          | some ρ1 =>
            rw [e1, Option.bind_some] at t
            cases e2 : tgSet tb db ρ1 with
            | none => rw [e2] at t; cases t
            | some ρ2 =>
              rw [e2, Option.bind_some] at t
              refine ⟨rfl, _, _, rfl, ρ, g, m, da, ρ1, s, e, r1, e1, fun σ1 E1 c1 => ⟨_, _, rfl, ρ1, g, m, db, ρ2, s, E1, r2, e2, fun σ2 E2 c2 => ⟨_, _, rfl, ρ2, g, m, dc, ρ', s, E2, r3, t, fun σ3 E3 c3 => ⟨rfl, q σ3 E3 ((c1.trans c2).trans c3)⟩⟩⟩⟩
  refine ⟨fun pins s σ H v u Q I rv ⟨ρ, g, m, d, ρ', S, E, r, t, q⟩ => ?_⟩
  cases d with
  | tuple ds =>
    match ds, t, r with
    | [da, db, dc], t, r =>
      obtain ⟨a, vs, rfl, hv, rr⟩ := r.seq
      obtain ⟨h1, h2⟩ := seq S E rr t q
      exact (pg_tup (n := 3) C p hlen hst).run pins s σ H _ u Q I rv ⟨a, vs, rfl, hv, h1, h2⟩
    | [], t, r => cases t
    | [_], t, r => cases t
    | [_, _], t, r => cases t
    | _ :: _ :: _ :: _ :: _, t, r => cases t
  | list ds =>
    match ds, t, r with
    | [da, db, dc], t, r =>
      rcases r with r | ⟨_, _, _, _, _, e, _⟩
      · obtain ⟨a, vs, rfl, hv, _, rr⟩ := r.lstI
        obtain ⟨h1, h2⟩ := seq S E rr t q
        exact (pg_lst (n := 3) C p hlen hst).run pins s σ H _ u Q I rv ⟨a, vs, rfl, hv.sq, h1, h2⟩
      · cases e
    | [], t, r => cases t
    | [_], t, r => cases t
    | [_, _], t, r => cases t
    | _ :: _ :: _ :: _ :: _, t, r => cases t
  | _ => cases t
end Lo
/-! What a loop walks. -/
namespace Lo
open PySem PySem.Spec PyProof.Rows L2
variable {Y : Cy}
/-- J gives the items ds, as long as what stands stands; p: they may be new pairs -/
structure WalkD (K : PySem.W.Frag) (w : World) (p : Bool) (g : Gm) (H : Hp) (J : It) (ds : List PyData) : Prop where
  ex : ∃ (G : Hp → Prop) (Yv : Nat → Hp → V → Hp → Prop), Walk J ds.length G Yv ∧ ∀ g2 H2, Ext g H g2 H2 → G H2 ∧ ∀ i x H3, i < ds.length → Yv i H2 x H3 → ∃ d, ds[i]? = some d ∧
    ((H3 = H2 ∧ Rp K w H2 g2.fz d x) ∨ (p = true ∧ ∃ T a b da db, d = .tuple [da, db] ∧ x = .ref T ∧ H2 T = none ∧ H3 = upd H2 T (.tup [a, b]) ∧ Rp K w H2 g2.fz da a ∧ Rp K w H2 g2.fz db b))
theorem WalkD.weak {K : PySem.W.Frag} {w : World} {p : Bool} {g : Gm} {H : Hp} {J : It} {ds : List PyData} (h : WalkD K w false g H J ds) : WalkD K w p g H J ds := by
  obtain ⟨G, Yv, h1, h2⟩ := h.ex
  refine ⟨G, Yv, h1, fun g2 H2 e => ⟨(h2 g2 H2 e).1, fun i x H3 hi y => ?_⟩⟩
  obtain ⟨d, e1, e2⟩ := (h2 g2 H2 e).2 i x H3 hi y
  exact ⟨d, e1, .inl (e2.resolve_right fun q => Bool.false_ne_true q.1)⟩
def rdI (Y : Cy) (p : Bool) (f : En → Mem → R W) : TI := fun σ H R => ∃ ρ m g, Sr Y.X.K Y.X.w g H m ∧ Er Y.X.K Y.X.w Y.sx g H ρ σ ∧ match f ρ m with
  | .ok w m1 => ∃ ds, items m1 w = some ds ∧ ∀ J H1 g1, Sr Y.X.K Y.X.w g1 H1 m1 → Ext0 g H g1 H1 → WalkD Y.X.K Y.X.w p (g1.lock (lockOf m1 w)) H1 J ds → R J H1
  | .exc c m1 => ∀ (_ : Unit) H1 g1, Sr Y.X.K Y.X.w g1 H1 m1 → Ext0 g H g1 H1 → Y.Wx (Y.cx c) none σ H1
  | .bad => False
section
variable {K : PySem.W.Frag} {w : World} {sx : Option (Addr × Nat)} {g : Gm} {H : Hp} {m : Mem}
theorem Gm.lock_mu {k : Option Nat} : (g.lock k).mu = g.mu := by cases k <;> rfl
theorem Gm.lock_fz {k : Option Nat} : (g.lock k).fz = g.fz := by cases k <;> rfl
theorem Gm.lock_lk {k : Option Nat} {a : Addr} (h : g.lk a) : (g.lock k).lk a := by
  cases k with
  | none => exact h
  | some n => exact .inl h
/-- a list stands while the loop walks it -/
theorem list_stay {x : W} {v : V} {ds : List PyData} (s : Sr K w g H m) (r : Rw K w sx g H x v) (h : listR m x = some ds) :
    ∃ a vs, v = .ref a ∧ vs.length ≤ LINE ∧ RpA K w H g.fz ds vs ∧ SqL K H a vs ∧ ∀ g2 H2, Ext (g.lock (lockOf m x)) H g2 H2 → SqL K H2 a vs := by
  cases x with
  | ro xs =>
    cases h
    obtain ⟨a, o, vs, e, q, z, r⟩ := r
    refine ⟨a, vs, e, z, r, .inl (.inr ⟨o, q⟩), fun g2 H2 x => .inl (.inr ⟨o, x.keep _ _ q (.inl fun hm => ?_)⟩)⟩
    rw [Gm.lock_mu] at hm
    rcases s.at hm with ⟨_, z⟩ | ⟨_, z⟩ <;> rw [q] at z <;> cases z
  | d x =>
    cases x with
    | list xs =>
      cases h
      obtain ⟨a, vs, rfl, q, z, r⟩ := Rp.lstI (show Rp K w H g.fz (.list _) v from r)
      exact ⟨a, vs, rfl, z, r, q.sq, fun g2 H2 x => .inl (.inl (x.keep _ _ q.2 (.inl (by rw [Gm.lock_mu]; exact s.dis a q.1))))⟩
    | _ => cases h
  | new xs =>
    cases h
    obtain ⟨a, vs, rfl, q, z, r, _, n⟩ := r
    exact ⟨a, vs, rfl, z, r, .inl (.inl q), fun g2 H2 x => .inl (.inl (x.keep _ _ q (.inl (by rw [Gm.lock_mu]; exact n))))⟩
  | ref n =>
    obtain ⟨a, h1, rfl⟩ := (show ∃ a, g.mu[n]? = some a ∧ v = .ref a from r)
    have h : listOf m (.ref n) = some ds := h
    unfold listOf at h
    cases q : m[n]? with
    | none => simp only [q] at h; cases h
    | some o =>
      have c := s.cell n a o h1 q
      cases o with
      | lst xs =>
        simp only [q] at h; cases h
        obtain ⟨vs, e, z, r⟩ := c
        refine ⟨a, vs, rfl, z, r, .inl (.inl e), fun g2 H2 x => .inl (.inl (x.keep _ _ e (.inr ?_)))⟩
        have el : lockOf m (.ref n) = some n := by unfold lockOf; simp only [q]
        rw [el]
        exact .inr h1
      | lk xs =>
        simp only [q] at h; cases h
        obtain ⟨vs, e, z, r⟩ := c
        exact ⟨a, vs, rfl, z, r, .inl (.inl e), fun g2 H2 x => .inl (.inl (x.keep _ _ e (.inr (Gm.lock_lk ((s.lkd n a _ h1 q).mpr ⟨_, rfl⟩)))))⟩
      | dic xs => simp only [q] at h; cases h
  | _ => cases h
theorem lock_keeps {k : Option Nat} {g2 : Gm} {H2 : Hp} (s : Sr K w g H m) (x : Ext (g.lock k) H g2 H2) : Keeps K H g.fz H2 g2.fz where
  tup := fun a o xs h => x.keep _ _ h (.inl (by rw [Gm.lock_mu]; exact s.notTup h))
  lst := fun a xs f h => x.keep _ _ h (.inl (by rw [Gm.lock_mu]; exact s.dis a f))
  dic := fun a xs f h => x.keep _ _ h (.inl (by rw [Gm.lock_mu]; exact s.dis a f))
  fz := fun a f => x.fz a (by rw [Gm.lock_fz]; exact f)
theorem walkD_list {k : Option Nat} {a : Addr} {vs : List V} {ds : List PyData} (s : Sr K w g H m) (r : RpA K w H g.fz ds vs) (st : ∀ g2 H2, Ext (g.lock k) H g2 H2 → SqL K H2 a vs) : WalkD K w false (g.lock k) H (Itl K a) ds := by
  refine ⟨fun H => SqL K H a vs, YAt vs, by rw [r.length]; exact walk_list (K := K) (a := a) (xs := vs), fun g2 H2 x => ⟨st g2 H2 x, fun i y H3 hi ⟨e1, e2⟩ => ?_⟩⟩
  subst e1
  obtain ⟨v, e3, e4⟩ := r.get (List.getElem?_eq_getElem hi)
  rw [e2] at e3
  cases e3
  exact ⟨_, List.getElem?_eq_getElem hi, .inl ⟨rfl, e4.keep (lock_keeps s x)⟩⟩
theorem walkD_tup {k : Option Nat} {a : Addr} {vs : List V} {ds : List PyData} (s : Sr K w g H m) (r : RpA K w H g.fz ds vs) (ht : TpAt K H a vs) : WalkD K w false (g.lock k) H (Itt K a) ds := by
  refine ⟨fun H => SqT K H a vs, YAt vs, by rw [r.length]; exact walk_tup (K := K) (a := a) (xs := vs), fun g2 H2 x => ⟨?_, fun i y H3 hi ⟨e1, e2⟩ => ?_⟩⟩
  · exact TpAt.sq (ht.imp (fun ⟨o, h, n⟩ => ⟨o, (lock_keeps s x).tup _ _ _ h, n⟩) id)
  · subst e1
    obtain ⟨v, e3, e4⟩ := r.get (List.getElem?_eq_getElem hi)
    rw [e2] at e3
    cases e3
    exact ⟨_, List.getElem?_eq_getElem hi, .inl ⟨rfl, e4.keep (lock_keeps s x)⟩⟩
theorem walkD_str {x : Str} (hx : sOk x) : WalkD K w false g H (Its x) (signs x) := by
  have hl : (signs x).length = x.cps.size := by unfold signs; rw [List.length_map, Array.length_toList]
  refine ⟨fun _ => True, fun i H v H' => H' = H ∧ ∃ c, x.cps[i]? = some c ∧ v = .str ⟨#[c]⟩, by rw [hl]; exact walk_str (z := x), fun g2 H2 _ => ⟨trivial, fun i y H3 hi ⟨e1, c, e2, e3⟩ => ?_⟩⟩
  subst e1 e3
  have ec : x.cps.toList[i]? = some c := by rw [Array.getElem?_toList]; exact e2
  refine ⟨.str ⟨#[c]⟩, by unfold signs; rw [List.getElem?_map, ec]; rfl, .inl ⟨rfl, .str (sOk_sign hx (List.mem_of_getElem? ec))⟩⟩
theorem walkD_rng {lo : Int} {n : Nat} : WalkD K w false g H (Itr lo n) ((List.range n).map fun k => .int (lo + (k : Nat))) := by
  refine ⟨fun _ => True, YFn fun i => .int (lo + i), by rw [List.length_map, List.length_range]; exact walk_range (lo := lo) (n := n), fun g2 H2 _ => ⟨trivial, fun i y H3 hi ⟨e1, e2⟩ => ?_⟩⟩
  subst e1 e2
  rw [List.length_map, List.length_range] at hi
  exact ⟨_, by rw [List.getElem?_map, List.getElem?_range hi]; rfl, .inl ⟨rfl, .int _⟩⟩
theorem walkD_enum {k : Option Nat} {a : Addr} {vs : List V} {ds : List PyData} (s : Sr K w g H m) (r : RpA K w H g.fz ds vs) (st : ∀ g2 H2, Ext (g.lock k) H g2 H2 → SqL K H2 a vs) : WalkD K w true (g.lock k) H (Ite K a) (ds.zipIdx.map fun p => .tuple [.int (p.2 : Nat), p.1]) := by
  refine ⟨fun H => SqL K H a vs, YPair (fun i => some (.int (i : Nat))) (fun i => vs[i]?), by rw [List.length_map, List.length_zipIdx, r.length]; exact walk_enum (K := K) (a := a) (xs := vs), fun g2 H2 x => ⟨st g2 H2 x, fun i y H3 hi ⟨T, u, v, e1, e2, e3, e4, e5⟩ => ?_⟩⟩
  rw [List.length_map, List.length_zipIdx] at hi
  obtain ⟨v', e6, e7⟩ := r.get (List.getElem?_eq_getElem hi)
  have e8 : some v' = some v := e6.symm.trans e5
  cases e8
  cases e4
  exact ⟨.tuple [.int (i : Nat), ds[i]], by rw [List.getElem?_map, List.getElem?_zipIdx, List.getElem?_eq_getElem hi]; simp, .inr ⟨rfl, T, _, _, _, _, rfl, e1, e2, e3, .int _, e7.keep (lock_keeps s x)⟩⟩
end
/-- a value that is walked: a list, a tuple, a text -/
theorem sni_val {p : Bool} {tg e : Expr} {fa : En → Mem → R W} (he : PE Y.X e (rdE Y fa)) : PI Y.X tg e (rdI Y p fa) := by
  refine ⟨fun pins s σ H R I ⟨ρ, m, g, S, E, h⟩ => ?_⟩
  cases q : fa ρ m with
  | bad => rw [q] at h; exact h.elim
  | exc c m1 =>
    rw [q] at h
    exact (pi_list he).run pins s σ H R I ⟨ρ, m, g, S, E, by rw [q]; exact h⟩
  | ok x m1 =>
    rw [q] at h
    obtain ⟨ds, ei, hR⟩ := h
    have lst : listR m1 x = some ds → wpAny (model Y.X.prog Y.X.w) Y.X.A (eval e Y.X.env) (fun v s1 => wpAny (model Y.X.prog Y.X.w) Y.X.A (pyIter v) (PIE Y.X pins σ tg R) Y.X.xe s1) Y.X.xe s := fun el =>
      (pi_list he).run pins s σ H R I ⟨ρ, m, g, S, E, by
        rw [q]
        intro v H1 g1 s1 e1 rx
        obtain ⟨a, vs, rfl, _, r, hs, st⟩ := list_stay s1 rx.1 el
        exact ⟨a, rfl, ⟨vs, hs⟩, hR _ H1 g1 s1 e1 (walkD_list s1 r st).weak⟩⟩
    cases x with
    | d x =>
      cases x with
      | tuple xs =>
        cases ei
        exact (pi_tup he).run pins s σ H R I ⟨ρ, m, g, S, E, by
          rw [q]
          intro v H1 g1 s1 e1 rx
          obtain ⟨a, vs, rfl, ha, _, r⟩ := Rp.tupI (show Rp Y.X.K Y.X.w H1 g1.fz (.tuple ds) v from rx.1)
          exact ⟨a, rfl, ⟨vs, ha.sq⟩, hR _ H1 g1 s1 e1 (walkD_tup (k := lockOf m1 (.d (.tuple ds))) s1 r ha).weak⟩⟩
      | str x =>
        cases ei
        exact (pi_str he).run pins s σ H R I ⟨ρ, m, g, S, E, by
          rw [q]
          intro v H1 g1 s1 e1 rx
          obtain ⟨rfl, k⟩ := Rp.strI (show Rp Y.X.K Y.X.w H1 g1.fz (.str x) v from rx.1)
          exact ⟨x, rfl, hR _ H1 g1 s1 e1 (walkD_str k).weak⟩⟩
      | _ => exact lst ei
    | it xs =>
      exact (pi_list he).run pins s σ H R I ⟨ρ, m, g, S, E, by
        rw [q]
        exact fun v H1 g1 s1 e1 rx => (show False from rx.1).elim⟩
    | _ => exact lst ei
/-! ### range, enumerate, zip -/
/-- PA read as by the small language, then by values -/
theorem rd_ia {p : Bool} {fs : En → Mem → R (List W)} {k : List W → Mem → Option W} {σ : L2.St} {H : Hp} {It' : It → Hp → Prop} {Z : List V → Hp → Prop} {L : List W → Prop} (hL : ∀ ρ m xs m', fs ρ m = .ok xs m' → L xs) (h : rdI Y p (fun ρ m => (fs ρ m).bind fun xs m => .of m (k xs m)) σ H It')
    (c : ∀ xs m1 vs H1 g g1 z, L xs → Sr Y.X.K Y.X.w g1 H1 m1 → Ext0 g H g1 H1 → RwA Y.X.K Y.X.w Y.sx g1 H H1 xs vs → k xs m1 = some z → (∃ ds, items m1 z = some ds ∧ ∀ J H1 g1, Sr Y.X.K Y.X.w g1 H1 m1 → Ext0 g H g1 H1 → WalkD Y.X.K Y.X.w p (g1.lock (lockOf m1 z)) H1 J ds → It' J H1) → Z vs H1) :
    rdA Y fs σ H Z := by
  obtain ⟨ρ, m, g, S, E, h⟩ := h
  refine ⟨ρ, m, g, S, E, ?_⟩
  dsimp only at h
  cases q : fs ρ m with
  | bad => rw [q] at h; exact h.elim
  | exc n m1 => rw [q] at h; exact h
  | ok xs m1 =>
    rw [q] at h
    intro vs H1 g1 s1 e1 rx
    cases qk : k xs m1 with
    | none =>
      have e : R.of m1 (k xs m1) = .bad := by rw [qk]; rfl
      have h : match R.of m1 (k xs m1) with
        | .ok w m1 => ∃ ds, items m1 w = some ds ∧ ∀ J H1 g1, Sr Y.X.K Y.X.w g1 H1 m1 → Ext0 g H g1 H1 → WalkD Y.X.K Y.X.w p (g1.lock (lockOf m1 w)) H1 J ds → It' J H1
        | .exc c m1 => ∀ (_ : Unit) H1 g1, Sr Y.X.K Y.X.w g1 H1 m1 → Ext0 g H g1 H1 → Y.Wx (Y.cx c) none σ H1
        | .bad => False := h
      rw [e] at h
      exact h.elim
    | some z =>
      have e : R.of m1 (k xs m1) = .ok z m1 := by rw [qk]; rfl
      have h : match R.of m1 (k xs m1) with
        | .ok w m1 => ∃ ds, items m1 w = some ds ∧ ∀ J H1 g1, Sr Y.X.K Y.X.w g1 H1 m1 → Ext0 g H g1 H1 → WalkD Y.X.K Y.X.w p (g1.lock (lockOf m1 w)) H1 J ds → It' J H1
        | .exc c m1 => ∀ (_ : Unit) H1 g1, Sr Y.X.K Y.X.w g1 H1 m1 → Ext0 g H g1 H1 → Y.Wx (Y.cx c) none σ H1
        | .bad => False := h
      rw [e] at h
      exact c xs m1 vs H1 g g1 z (hL _ _ _ _ q) s1 e1 rx qk h
def rngF (fs : En → Mem → R (List W)) : En → Mem → R W := fun ρ m => (fs ρ m).bind fun xs m => .of m (rngW xs)
theorem lockOf_it {m : Mem} {xs : List PyData} : lockOf m (.it xs) = none := rfl
theorem sni_rng1 {p : Bool} {tg a : Expr} {q pos : Pos} {fs : En → Mem → R (List W)} (hg : Gl Y.X "range") (hm : Y.X.mg "range" = none) (ha : PA Y.X [a] (rdA Y fs)) (na : noStar a = true) (hl : ∀ ρ m xs m', fs ρ m = .ok xs m' → xs.length = 1) : PI Y.X tg (.Call (.Name "range" q) [a] [] pos) (rdI Y p (rngF fs)) := by
  have P := pi_range1 (tg := tg) (p := q) (pos := pos) hg hm ha (star_cons na)
  refine ⟨fun pins s σ H R I h => P.run pins s σ H R I (rd_ia (k := fun xs _ => rngW xs) (L := fun xs => xs.length = 1) hl h fun xs m1 vs H1 g g1 z hlen s1 e1 rx ek hR => ?_)⟩
  unfold rngW at ek
  split at ek
  · rename_i j
    split at ek
    · rename_i hj
      cases ek
      obtain ⟨v, rfl, rv, _⟩ := rx.oneI
      obtain rfl := Rp.intI (show Rp Y.X.K Y.X.w H1 g1.fz (.int j) v from rv)
      obtain ⟨ds, ei, hR⟩ := hR
      cases ei
      refine ⟨j, rfl, hj.1, hj.2.1, hR _ H1 g1 s1 e1 ?_⟩
      have e : ((List.range j.toNat).map fun k => PyData.int (k : Nat)) = (List.range j.toNat).map fun k => .int (0 + (k : Nat)) := by
        refine List.map_congr_left fun k _ => ?_
        rw [Int.zero_add]
      rw [e]
      exact walkD_rng.weak
    · cases ek
  · rename_i i j
    exact absurd hlen (by simp)
  · cases ek
theorem sni_rng2 {p : Bool} {tg a b : Expr} {q pos : Pos} {fs : En → Mem → R (List W)} (hg : Gl Y.X "range") (hm : Y.X.mg "range" = none) (ha : PA Y.X [a, b] (rdA Y fs)) (na : noStar a = true) (nb : noStar b = true) (hl : ∀ ρ m xs m', fs ρ m = .ok xs m' → xs.length = 2) : PI Y.X tg (.Call (.Name "range" q) [a, b] [] pos) (rdI Y p (rngF fs)) := by
  have P := pi_range2 (tg := tg) (p := q) (pos := pos) hg hm ha (by rw [star_cons na, star_cons nb]; rfl) (star_cons nb)
  refine ⟨fun pins s σ H R I h => P.run pins s σ H R I (rd_ia (k := fun xs _ => rngW xs) (L := fun xs => xs.length = 2) hl h fun xs m1 vs H1 g g1 z hlen s1 e1 rx ek hR => ?_)⟩
  unfold rngW at ek
  split at ek
  · exact absurd hlen (by simp)
  · rename_i i j
    split at ek
    · rename_i hj
      cases ek
      obtain ⟨v, u, rfl, rv, ru⟩ := rx.twoI
      obtain rfl := Rp.intI (show Rp Y.X.K Y.X.w H1 g1.fz (.int i) v from rv)
      obtain rfl := Rp.intI (show Rp Y.X.K Y.X.w H1 g1.fz (.int j) u from ru)
      obtain ⟨ds, ei, hR⟩ := hR
      cases ei
      exact ⟨i, j, rfl, ⟨hj.1, hj.2.1, hj.2.2.1, hj.2.2.2.1⟩, hR _ H1 g1 s1 e1 walkD_rng.weak⟩
    · cases ek
  · cases ek
theorem listZ_R {x : W} {m : Mem} {ds : List PyData} (h : listZ x = some ds) : listR m x = some ds ∧ lockOf m x = none := by
  cases x with
  | d x => cases x <;> first | exact ⟨h, rfl⟩ | cases h
  | ro xs => exact ⟨h, rfl⟩
  | new xs => exact ⟨h, rfl⟩
  | _ => cases h
def enmF (fs : En → Mem → R (List W)) : En → Mem → R W := fun ρ m => (fs ρ m).bind fun xs m => .of m (match xs with
  | [w] => enmW w
  | _ => none)
def enm1 : List W → Mem → Option W := fun xs _ => match xs with
  | [w] => enmW w
  | _ => none
theorem sni_enm {e : Expr} {elts : List Expr} {k : Nat} {q pos tpos : Pos} {fs : En → Mem → R (List W)} (hg : Gl Y.X "enumerate") (hm : Y.X.mg "enumerate" = none) (ha : PA Y.X [e] (rdA Y fs)) (ne : noStar e = true) : PI Y.X (.Tuple elts k tpos) (.Call (.Name "enumerate" q) [e] [] pos) (rdI Y true (enmF fs)) := by
  have P := pi_enum (p := q) (pos := pos) (tpos := tpos) (elts := elts) (kk := k) hg hm ha (star_cons ne)
  refine ⟨fun pins s σ H R I h => P.run pins s σ H R I (rd_ia (k := enm1) (L := fun _ => True) (fun _ _ _ _ _ => trivial) h fun xs m1 vs H1 g g1 z _ s1 e1 rx ek hR => ?_)⟩
  unfold enm1 at ek
  split at ek
  · rename_i x
    obtain ⟨v, rfl, rv, _⟩ := rx.oneI
    unfold enmW at ek
    cases el : listZ x with
    | none => rw [el] at ek; cases ek
    | some ds =>
      rw [el] at ek
      cases ek
      obtain ⟨el, ek⟩ := listZ_R (m := m1) el
      obtain ⟨a, us, rfl, _, r, hs, st⟩ := list_stay s1 rv el
      rw [ek] at st
      obtain ⟨ds', ei, hR⟩ := hR
      cases ei
      exact ⟨a, us, rfl, hs, hR _ H1 g1 s1 e1 (walkD_enum (k := none) s1 r st)⟩
  · cases ek
theorem zipL_get {xs ys : List PyData} {i : Nat} (h1 : i < xs.length) (h2 : i < ys.length) : (zipL xs ys)[i]? = some (.tuple [xs[i], ys[i]]) := by
  unfold zipL
  rw [List.getElem?_zipWith, List.getElem?_eq_getElem h1, List.getElem?_eq_getElem h2]
theorem zipL_len (xs ys : List PyData) : (zipL xs ys).length = min xs.length ys.length := List.length_zipWith
section
variable {K : PySem.W.Frag} {w : World} {g : Gm} {H : Hp} {m : Mem}
theorem walkD_zip {a b : Addr} {vs us : List V} {ds es : List PyData} (s : Sr K w g H m) (r : RpA K w H g.fz ds vs) (r2 : RpA K w H g.fz es us) (st : ∀ g2 H2, Ext g H g2 H2 → SqL K H2 a vs) (st2 : ∀ g2 H2, Ext g H g2 H2 → SqL K H2 b us) : WalkD K w true g H (Itz K a b) (zipL ds es) := by
  refine ⟨fun H => SqL K H a vs ∧ SqL K H b us, YPair (fun i => vs[i]?) (fun i => us[i]?), by rw [zipL_len, r.length, r2.length]; exact walk_zip (K := K) (a := a) (b := b) (xs := vs) (ys := us) rfl, fun g2 H2 x => ⟨⟨st g2 H2 x, st2 g2 H2 x⟩, fun i y H3 hi ⟨T, u, v, e1, e2, e3, e4, e5⟩ => ?_⟩⟩
  rw [zipL_len] at hi
  have h1 : i < ds.length := by omega
  have h2 : i < es.length := by omega
  obtain ⟨v', e6, e7⟩ := r.get (List.getElem?_eq_getElem h1)
  obtain ⟨u', f6, f7⟩ := r2.get (List.getElem?_eq_getElem h2)
  have e8 : some v' = some u := e6.symm.trans e4
  have f8 : some u' = some v := f6.symm.trans e5
  cases e8
  cases f8
  exact ⟨_, zipL_get h1 h2, .inr ⟨rfl, T, _, _, _, _, rfl, e1, e2, e3, e7.keep (x.keeps s), f7.keep (x.keeps s)⟩⟩
theorem walkT {a b : Addr} {xs ys : List V} : Walk (RZ.ItzT K a b) (min xs.length ys.length) (fun H => SqT K H a xs ∧ SqT K H b ys) (YPair (fun i => xs[i]?) (fun i => ys[i]?)) := by
  refine ⟨fun i H hi q => ?_, fun H q => ⟨xs, ys, q.1, q.2, by omega⟩, fun i H v H' _ q ⟨T, x, z, h1, h2, h3, h4, h5⟩ => ⟨T, x, z, h1, h2, h3, h4 xs q.1, h5 ys q.2⟩⟩
  have h1 : i < xs.length := by omega
  have h2 : i < ys.length := by omega
  exact ⟨xs, ys, xs[i], ys[i], q.1, q.2, by simp [h1], by simp [h2]⟩
theorem walkD_zipT {a b : Addr} {vs us : List V} {ds es : List PyData} (s : Sr K w g H m) (r : RpA K w H g.fz ds vs) (r2 : RpA K w H g.fz es us) (ha : TpAt K H a vs) (hb : TpAt K H b us) : WalkD K w true g H (RZ.ItzT K a b) (zipL ds es) := by
  refine ⟨fun H => SqT K H a vs ∧ SqT K H b us, YPair (fun i => vs[i]?) (fun i => us[i]?), by rw [zipL_len, r.length, r2.length]; exact walkT, fun g2 H2 x => ⟨⟨?_, ?_⟩, fun i y H3 hi ⟨T, u, v, e1, e2, e3, e4, e5⟩ => ?_⟩⟩
  · exact TpAt.sq (ha.imp (fun ⟨o, h, n⟩ => ⟨o, (x.keeps s).tup _ _ _ h, n⟩) id)
  · exact TpAt.sq (hb.imp (fun ⟨o, h, n⟩ => ⟨o, (x.keeps s).tup _ _ _ h, n⟩) id)
  · rw [zipL_len] at hi
    have h1 : i < ds.length := by omega
    have h2 : i < es.length := by omega
    obtain ⟨v', e6, e7⟩ := r.get (List.getElem?_eq_getElem h1)
    obtain ⟨u', f6, f7⟩ := r2.get (List.getElem?_eq_getElem h2)
    have e8 : some v' = some u := e6.symm.trans e4
    have f8 : some u' = some v := f6.symm.trans e5
    cases e8
    cases f8
    exact ⟨_, zipL_get h1 h2, .inr ⟨rfl, T, _, _, _, _, rfl, e1, e2, e3, e7.keep (x.keeps s), f7.keep (x.keeps s)⟩⟩
end
def zip1 : List W → Mem → Option W := fun xs _ => match xs with
  | [x, y] => zipW x y
  | _ => none
def zipF (fs : En → Mem → R (List W)) : En → Mem → R W := fun ρ m => (fs ρ m).bind fun xs m => .of m (match xs with
  | [x, y] => zipW x y
  | _ => none)
theorem sni_zip {e e2 : Expr} {elts : List Expr} {k : Nat} {q pos tpos : Pos} {fs : En → Mem → R (List W)} (hg : Gl Y.X "zip") (hm : Y.X.mg "zip" = none) (ha : PA Y.X [e, e2] (rdA Y fs)) (ne : noStar e = true) (ne2 : noStar e2 = true) : PI Y.X (.Tuple elts k tpos) (.Call (.Name "zip" q) [e, e2] [] pos) (rdI Y true (zipF fs)) := by
  have P := RZ.pi_zipA (p := q) (pos := pos) (tpos := tpos) (elts := elts) (kk := k) hg hm ha (star_cons ne) (star_any (by rw [List.all_cons, ne2]; rfl))
  refine ⟨fun pins s σ H R I h => P.run pins s σ H R I (rd_ia (k := zip1) (L := fun _ => True) (fun _ _ _ _ _ => trivial) h fun xs m1 vs H1 g g1 z _ s1 e1 rx ek hR => ?_)⟩
  unfold zip1 at ek
  split at ek
  · rename_i x y
    obtain ⟨v, u, rfl, rv, ru⟩ := rx.twoI
    unfold zipW at ek
    split at ek
    · rename_i ds es
      cases ek
      obtain ⟨a, us, rfl, ha, _, r1⟩ := Rp.tupI (show Rp Y.X.K Y.X.w H1 g1.fz (.tuple ds) v from rv)
      obtain ⟨b, ws, rfl, hb, _, r2⟩ := Rp.tupI (show Rp Y.X.K Y.X.w H1 g1.fz (.tuple es) u from ru)
      obtain ⟨ds', ei, hR⟩ := hR
      cases ei
      exact ⟨a, b, us, ws, rfl, .inr ⟨ha.sq, hb.sq, hR _ H1 g1 s1 e1 (walkD_zipT s1 r1 r2 ha hb)⟩⟩
    · cases el : listZ x with
      | none => rw [el] at ek; cases ek
      | some ds =>
        cases el2 : listZ y with
        | none => rw [el, el2] at ek; cases ek
        | some es =>
          rw [el, el2] at ek
          cases ek
          obtain ⟨el, ek1⟩ := listZ_R (m := m1) el
          obtain ⟨el2, ek2⟩ := listZ_R (m := m1) el2
          obtain ⟨a, us, rfl, _, r, hs, st⟩ := list_stay s1 rv el
          obtain ⟨b, ws, rfl, _, r2, hs2, st2⟩ := list_stay s1 ru el2
          rw [ek1] at st
          rw [ek2] at st2
          obtain ⟨ds', ei, hR⟩ := hR
          cases ei
          exact ⟨a, b, us, ws, rfl, .inl ⟨hs, hs2, hR _ H1 g1 s1 e1 (walkD_zip s1 r r2 st st2)⟩⟩
  · cases ek
end Lo
/-! Comprehensions. -/
namespace Lo
open PySem PySem.Spec PyProof.Rows L2
variable {Y : Cy}
/-- within a comprehension's block: nothing may be raised -/
def Cy.blk (Y : Cy) (s : Shared) (H : Hp) (scope : Scope) (C : Addr) (cl : List (Str × Addr)) (fp : List Addr) : Cy := ⟨Y.X.blk s H scope (compEnvC scope cl C Y.X.env) fp, Y.sx, Y.cx, fun _ _ _ _ => False⟩
def Cy.nox (Y : Cy) : Cy := ⟨Y.X, Y.sx, Y.cx, fun _ _ _ _ => False⟩
/-- where a target stores an item: p, an item may be a new pair -/
def gX (Y : Cy) (p : Bool) (tg : Tg) : TG := if p = true then gT Y tg else gD Y tg
def ItX (K : PySem.W.Frag) (w : World) (p : Bool) (H : Hp) (fz : Addr → Prop) (d : PyData) (v : V) : Prop := if p = true then ItR K w H fz d v else Rp K w H fz d v
theorem gX_mk {p : Bool} {tg : Tg} {v : V} {σ : L2.St} {H : Hp} {Q : L2.St → Hp → Prop} {ρ ρ' : En} {g : Gm} {m : Mem} {d : PyData} (S : Sr Y.X.K Y.X.w g H m) (E : Er Y.X.K Y.X.w Y.sx g H ρ σ) (r : ItX Y.X.K Y.X.w p H g.fz d v) (t : tgSet tg d ρ = some ρ')
    (q : ∀ σ', Er Y.X.K Y.X.w Y.sx g H ρ' σ' → Chg (tgSlots tg) σ σ' → Q σ' H) : gX Y p tg v σ H Q := by
  cases p with
  | true => exact ⟨ρ, g, m, d, ρ', S, E, r, t, q⟩
  | false => exact ⟨ρ, g, m, d, ρ', S, E, r, t, q⟩
section
variable {K : PySem.W.Frag} {w : World} {sx : Option (Addr × Nat)} {β γ : Type}
/-- the state ahead of turn i: D holds what was gathered -/
def CSt (K : PySem.W.Frag) (w : World) (AR : Gm → Hp → γ → HO → Prop) (f : PyData → Mem → R (Option β)) (add : β → γ → Option γ) (ds : List PyData) (r : γ) (m' : Mem) (gl : Gm) (H1 : Hp) (D : Addr) (i : Nat) (H : Hp) : Prop :=
  ∃ acc m g ho, Sr K w g H m ∧ Ext0 gl H1 g H ∧ H D = some ho ∧ AR g H acc ho ∧ D ∉ g.mu ∧ ¬ g.fz D ∧ lcGo f add (ds.drop i) acc m = .ok r m'
variable {AR : Gm → Hp → γ → HO → Prop} {f : PyData → Mem → R (Option β)} {add : β → γ → Option γ} {ds : List PyData} {r : γ} {m' : Mem} {gl : Gm} {H1 : Hp} {D : Addr} {i : Nat} {H : Hp}
theorem nfz_of {g g2 : Gm} {H H2 : Hp} {D : Addr} {ho : HO} (x : Ext g H g2 H2) (hD : H D = some ho) (hf : ¬ g.fz D) : ¬ g2.fz D := fun h => by
  rcases x.nfz D h with h | h
  · exact hf h
  · rw [hD] at h; cases h
/-- a turn begins -/
theorem CSt.turn (hk : ∀ g H g2 H2 acc ho, Keeps K H g.fz H2 g2.fz → AR g H acc ho → AR g2 H2 acc ho) {p : Bool} {G : Hp → Prop} {Yv : Nat → Hp → V → Hp → Prop}
    (wd : ∀ g2 H2, Ext gl H1 g2 H2 → G H2 ∧ ∀ i x H3, i < ds.length → Yv i H2 x H3 → ∃ d, ds[i]? = some d ∧
      ((H3 = H2 ∧ Rp K w H2 g2.fz d x) ∨ (p = true ∧ ∃ T a b da db, d = .tuple [da, db] ∧ x = .ref T ∧ H2 T = none ∧ H3 = upd H2 T (.tup [a, b]) ∧ Rp K w H2 g2.fz da a ∧ Rp K w H2 g2.fz db b)))
    (c : CSt K w AR f add ds r m' gl H1 D i H) {x : V} {H3 : Hp} (hi : i < ds.length) (hy : Yv i H x H3) :
    ∃ acc m g ho d, Sr K w g H3 m ∧ Ext0 gl H1 g H3 ∧ H3 D = some ho ∧ AR g H3 acc ho ∧ D ∉ g.mu ∧ ¬ g.fz D ∧ ItX K w p H3 g.fz d x ∧ lcGo f add (d :: ds.drop (i + 1)) acc m = .ok r m' := by
  obtain ⟨acc, m, g, ho, S, E, hD, ha, h1, h2, h3⟩ := c
  obtain ⟨_, h4⟩ := wd g H E.1
  obtain ⟨d, ed, h5⟩ := h4 i x H3 hi hy
  have edr : ds.drop i = d :: ds.drop (i + 1) := by
    rw [List.drop_eq_getElem_cons hi]
    congr 1
    rw [List.getElem?_eq_getElem hi] at ed
    exact Option.some.inj ed
  rw [edr] at h3
  rcases h5 with ⟨rfl, rp⟩ | ⟨hp, T, a, b, da, db, e1, e2, hT, e3, ra, rb⟩
  · refine ⟨acc, m, g, ho, d, S, E, hD, ha, h1, h2, ?_, h3⟩
    cases p with
    | true => exact .inl rp
    | false => exact rp
  · subst e3
    have x0 := Ext0.new (g := g) (o := .tup [a, b]) hT
    have k := x0.1.keeps S
    refine ⟨acc, m, g, ho, d, S.new hT, E.trans S x0, ?_, hk _ _ _ _ _ _ k ha, h1, h2, ?_, h3⟩
    · rw [upd_ne (ne_of_none hD hT)]; exact hD
    · subst hp
      exact .inr ⟨T, da, db, a, b, e1, e2, upd_same, ra.keep k, rb.keep k⟩
/-- nothing gathered yet -/
theorem CSt.start {g1 : Gm} {m1 : Mem} {k : Option Nat} {acc : γ} {ho : HO} (s1 : Sr K w g1 H1 m1) (hk : ∀ n, k = some n → ∃ xs, m1[n]? = some (.lst xs)) (hD : H1 D = none) (ha : AR (g1.lock k) (upd H1 D ho) acc ho) (h : lcGo f add ds acc (lockM m1 k) = .ok r m') :
    CSt K w AR f add ds r m' (g1.lock k) H1 D 0 (upd H1 D ho) := by
  have s2 := s1.lock hk
  refine ⟨acc, _, g1.lock k, ho, s2.new hD, Ext0.new hD, upd_same, ha, fun q => s2.isS q hD, fun q => s2.fzs D q hD, ?_⟩
  rw [List.drop_zero]
  exact h
/-- D is rewritten -/
theorem Ext0.over {g0 g : Gm} {H0 H : Hp} {o : HO} (x : Ext0 g0 H0 g H) (hD : H0 D = none) : Ext0 g0 H0 g (upd H D o) :=
  ⟨⟨x.1.mu, x.1.fz, x.1.nfz, fun b u q hb => by rw [upd_ne (ne_of_none q hD)]; exact x.1.keep b u q hb, x.1.lk⟩, x.2⟩
theorem over_keeps {g : Gm} {ho o : HO} (hD : H D = some ho) (hf : ¬ g.fz D) (hno : ∀ ob u, ho ≠ .frz ob u) : Keeps K H g.fz (upd H D o) g.fz where
  tup := fun a ob xs q => by rw [upd_ne (fun e => by subst e; rw [hD] at q; exact hno _ _ (Option.some.inj q))]; exact q
  lst := fun a xs f q => by rw [upd_ne (fun e : a = D => hf (by rw [← e]; exact f))]; exact q
  dic := fun a xs f q => by rw [upd_ne (fun e : a = D => hf (by rw [← e]; exact f))]; exact q
  fz := fun _ f => f
theorem Sr.over {g : Gm} {m : Mem} {ho o : HO} (s : Sr K w g H m) (hD : H D = some ho) (hm : D ∉ g.mu) (hf : ¬ g.fz D) (hno : ∀ ob u, ho ≠ .frz ob u) : Sr K w g (upd H D o) m where
  len := s.len
  nd := s.nd
  dis := s.dis
  fzs := fun a f => by rw [upd_ne (fun e : a = D => hf (by rw [← e]; exact f))]; exact s.fzs a f
  cell := fun n a u h1 h2 => (s.cell n a u h1 h2).keep (over_keeps hD hf hno) (upd_ne fun e : a = D => hm (by rw [← e]; exact List.mem_of_getElem? h1))
  lkd := s.lkd
  lkm := s.lkm
end
theorem _root_.L2.PTs.imp {X : Cx} {e : List Expr} {t t' : TT} (h : PTs X e t) (i : ∀ σ H Q, t' σ H Q → t σ H Q) : PTs X e t' := ⟨fun pins s σ H Q I q => h.run pins s σ H Q I (i σ H Q q)⟩
def yesF : En → Mem → R Bool := fun _ m => .ok true m
theorem snts_nil : PTs Y.X [] (rdT Y yesF) := pts_nil.imp fun σ H Q ⟨ρ, m, g, S, E, h⟩ => h true H g S Ext0.refl rfl
theorem snts_one {c : Expr} {f : En → Mem → R Bool} (h : PT Y.X c (rdT Y f)) : PTs Y.X [c] (rdT Y f) := pts_one h
/-! ### lists -/
def ARl (K : PySem.W.Frag) (w : World) : Gm → Hp → List PyData → HO → Prop := fun g H acc ho => ∃ vs, ho = .lst vs ∧ vs.length ≤ LINE ∧ RpA K w H g.fz acc vs
theorem ARl.keep {K : PySem.W.Frag} {w : World} : ∀ g H g2 H2 acc ho, Keeps K H g.fz H2 g2.fz → ARl K w g H acc ho → ARl K w g2 H2 acc ho := fun _ _ _ _ _ _ k ⟨vs, e, z, r⟩ => ⟨vs, e, z, r.keep k⟩
def turnL (ft : En → Mem → R Bool) (fe : En → Mem → R W) (tg : Tg) (ρ : En) : PyData → Mem → R (Option PyData) := fun x m => match tgSet tg x ρ with
  | some ρ' => (ft ρ' m).bind fun b m => if b then (fe ρ' m).bind fun y m => .of m ((laid y).map some) else .ok none m
  | none => .bad
def lcF (fi : En → Mem → R W) (ft : En → Mem → R Bool) (fe : En → Mem → R W) (own : List Nat) (tg : Tg) : En → Mem → R W := fun ρ m => (fi ρ m).bind fun w m => (lcWalk (turnL ft fe tg (wipeE ρ own)) addL [] w m).bind fun r m => .ok (.new r) m
theorem lcWalk_ok {β γ : Type} {f : PyData → Mem → R (Option β)} {add : β → γ → Option γ} {acc : γ} {w : W} {m : Mem} {α : Type} {k : γ → Mem → R α} {P : R α → Prop} (hb : ¬ P .bad) (h : P ((lcWalk f add acc w m).bind k)) :
    ∃ ds r m', items m w = some ds ∧ lcGo f add ds acc (lockM m (lockOf m w)) = .ok r m' ∧ P (k r (unlockM m' (lockOf m w))) := by
  unfold lcWalk at h
  cases e1 : items m w with
  | none => rw [e1] at h; exact absurd h hb
  | some ds =>
    rw [e1] at h
    dsimp only at h
    cases e2 : lcGo f add ds acc (lockM m (lockOf m w)) with
    | ok r m' => rw [e2] at h; exact ⟨ds, r, m', rfl, e2, h⟩
    | exc c m' => rw [e2] at h; exact absurd h hb
    | bad => rw [e2] at h; exact absurd h hb
theorem rd_lc {p : Bool} {fi : En → Mem → R W} {ft : En → Mem → R Bool} {fe : En → Mem → R W} {own : List Nat} {tg : Tg} {σ : L2.St} {H : Hp} {Q : VK} (ho : ∀ i ∈ tgSlots tg, i ∈ own) (h : rdE Y (lcF fi ft fe own tg) σ H Q) :
    tLc (rdI Y p fi) (gX Y.nox p tg) (rdT Y.nox ft) (rdE Y.nox fe) own σ H Q := by
  obtain ⟨ρ, m, g, S, E, h⟩ := h
  refine ⟨ρ, m, g, S, E, ?_⟩
  unfold lcF at h
  cases q : fi ρ m with
  | bad => rw [q] at h; exact h.elim
  | exc c m1 => rw [q] at h; exact h
  | ok wv m1 =>
    rw [q] at h
    obtain ⟨ds, r, m', e1, e2, h⟩ := lcWalk_ok (P := fun r => Pst Y (relW Y) g H σ r Q) (fun z => z) h
    refine ⟨ds, e1, fun J H1 g1 s1 x1 wd D hD => ?_⟩
    have hlk : ∀ n, lockOf m1 wv = some n → ∃ xs, m1[n]? = some (.lst xs) := fun n e => (lockOf_some e).2
    obtain ⟨G, Yv, wk, wd⟩ := wd.ex
    refine lc_it wk (CSt Y.X.K Y.X.w (ARl Y.X.K Y.X.w) (turnL ft fe tg (wipeE ρ own)) addL ds r m' (g1.lock (lockOf m1 wv)) H1 D) ?_ (fun i H2 _ c => ?_) (fun i x H2 H3 hi c hy => ?_) fun H2 c => ?_
    · exact CSt.start s1 hlk hD ⟨[], rfl, Nat.zero_le _, .nil⟩ e2
    · obtain ⟨acc, m2, g2, ho, S2, E2, _⟩ := c
      exact (wd g2 H2 E2.1).1
    · obtain ⟨acc, m2, g2, hob, d, S3, E3, hD3, ha, hm3, hf3, ri, eg⟩ := c.turn ARl.keep wd hi hy
      have eg : R.bind (turnL ft fe tg (wipeE ρ own) d m2) (fun o m => lcAdd addL (lcGo (turnL ft fe tg (wipeE ρ own)) addL (ds.drop (i + 1))) acc o m) = .ok r m' := eg
      cases et : tgSet tg d (wipeE ρ own) with
      | none =>
        have et' : turnL ft fe tg (wipeE ρ own) d m2 = .bad := by unfold turnL; rw [et]
        rw [et'] at eg; cases eg
      | some ρ' =>
        have et' : turnL ft fe tg (wipeE ρ own) d m2 = (ft ρ' m2).bind fun b m => if b then (fe ρ' m).bind fun y m => .of m ((laid y).map some) else .ok none m := by unfold turnL; rw [et]
        rw [et'] at eg
        have E1 := (E.keep S x1.1).lock (k := lockOf m1 wv)
        have E2 : Er Y.X.K Y.X.w Y.sx g2 H3 ρ σ := E1.keep (s1.lock hlk) E3.1
        refine gX_mk (Y := Y.nox) (m := m2) S3 (E2.wipe own) ri et fun σ' E' chg => ⟨(chg own ho).trans (wipe_wipe σ own own fun _ h => h), ?_⟩
        refine ⟨ρ', m2, g2, S3, E', ?_⟩
        cases eft : ft ρ' m2 with
        | bad => rw [eft] at eg; cases eg
        | exc c m3 => rw [eft] at eg; cases eg
        | ok b m3 =>
          rw [eft] at eg
          intro b' H5 g5 S5 x5 eb
          cases eb
          have hD5 : H5 D = some hob := x5.1.keep _ _ hD3 (.inl hm3)
          have hm5 : D ∉ g5.mu := by rw [x5.2]; exact hm3
          have hf5 : ¬ g5.fz D := nfz_of x5.1 hD3 hf3
          have ha5 := ARl.keep (K := Y.X.K) (w := Y.X.w) g2 H3 g5 H5 acc hob (x5.1.keeps S3) ha
          have E5 := E3.trans S3 x5
          cases b with
          | false =>
            rw [if_neg Bool.false_ne_true]
            exact ⟨acc, m3, g5, hob, S5, E5, hD5, ha5, hm5, hf5, eg⟩
          | true =>
            rw [if_pos rfl]
            have eg : ((R.bind ((fe ρ' m3).bind fun y m => .of m ((laid y).map some)) fun o m => lcAdd addL (lcGo (turnL ft fe tg (wipeE ρ own)) addL (ds.drop (i + 1))) acc o m)) = .ok r m' := eg
            refine ⟨ρ', m3, g5, S5, E'.keep S3 x5.1, ?_⟩
            cases efe : fe ρ' m3 with
            | bad => rw [efe] at eg; cases eg
            | exc c m4 => rw [efe] at eg; cases eg
            | ok y m4 =>
              rw [efe] at eg
              intro yv H6 g6 S6 x6 ry
              have ry : relW Y g6 H5 H6 y yv := ry
              have eg : ((R.bind (R.of m4 ((laid y).map some)) fun o m => lcAdd addL (lcGo (turnL ft fe tg (wipeE ρ own)) addL (ds.drop (i + 1))) acc o m)) = .ok r m' := eg
              cases el : laid y with
              | none => rw [el] at eg; cases eg
              | some dy =>
                rw [el] at eg
                have eg : lcAdd addL (lcGo (turnL ft fe tg (wipeE ρ own)) addL (ds.drop (i + 1))) acc (some dy) m4 = .ok r m' := eg
                unfold lcAdd at eg
                dsimp only at eg
                obtain ⟨vs, rfl, hz, ra⟩ := ha5
                cases ead : addL dy acc with
                | none => rw [ead] at eg; cases eg
                | some acc2 =>
                  rw [ead] at eg
                  unfold addL at ead
                  split at ead
                  · rename_i hlt
                    cases ead
                    have hD6 : H6 D = some (.lst vs) := x6.1.keep _ _ hD5 (.inl hm5)
                    have hlv : vs.length < LINE := by rw [← ra.length]; exact hlt
                    refine ⟨vs, hD6, by rw [line_eq]; exact hlv, ?_⟩
                    -- what was made is kept from here on
                    have S7 := ice_sr (H0 := H5) S6
                    have x7 := ice_ext (H := H6) x6
                    have rd := ice_laid (H0 := H5) ry.1 ry.2 el
                    have hm7 : D ∉ (g6.ice H5 H6).mu := by show D ∉ g6.mu; rw [x6.2]; exact hm5
                    have hf7 : ¬ (g6.ice H5 H6).fz D := nfz_of x7.1 hD5 hf5
                    have k7 := over_keeps (K := Y.X.K) (o := .lst (vs ++ [yv])) hD6 hf7 fun _ _ z => nomatch z
                    refine ⟨acc ++ [dy], m4, g6.ice H5 H6, .lst (vs ++ [yv]), S7.over hD6 hm7 hf7 (fun _ _ z => nomatch z), (E5.trans S5 x7).over hD, upd_same, ⟨_, rfl, ?_, ?_⟩, hm7, hf7, eg⟩
                    · rw [List.length_append, List.length_singleton]; omega
                    · exact (RpA.append (ra.keep (x7.1.keeps S5)) (.cons rd .nil)).keep k7
                  · cases ead
    · obtain ⟨acc, m2, g2, hob, S2, E2, hD2, ⟨vs, rfl, hz, ra⟩, hm2, hf2, eg⟩ := c
      rw [List.drop_length] at eg
      have eg : R.ok acc m2 = R.ok r m' := eg
      cases eg
      have hu : ∀ n, lockOf m1 wv = some n → n < g1.mu.length ∧ ∀ a, g1.mu[n]? = some a → ¬ g1.lk a := fun n e => by
        obtain ⟨xs, ex⟩ := hlk n e
        exact ⟨by rw [s1.len]; exact (List.getElem?_eq_some_iff.mp ex).1, fun a ha => s1.free ha ex fun _ z => nomatch z⟩
      have hmu : g2.mu = g1.mu := by rw [E2.2]; exact Gm.lock_mu
      have x2 : Ext0 g1 H1 (g2.relk g1.lk) H2 := ⟨E2.1.unlock, hmu⟩
      exact h.done (S2.unlock E2.1 hu) (x1.trans s1 x2) ⟨D, vs, rfl, hD2, hz, ra, hf2, hm2⟩ fun a e => by
        cases e; exact x1.1.none_of s1 hD
/-- what a comprehension's block needs: it is proved in any block of it -/
def InBlk (Y : Cy) (scope : Scope) (P : Cy → Prop) : Prop := ∀ (s : Shared) (H : Hp) (C : Addr) (cl : List (Str × Addr)) (fp : List Addr), P (Y.blk s H scope C cl fp)
theorem snd_lc {p : Bool} {elt tg iter : Expr} {ifs : List Expr} {scope : Scope} {own : List (Str × Nat)} {pos : Pos} {fi : En → Mem → R W} {ft : En → Mem → R Bool} {fe : En → Mem → R W} {t : Tg} (C : Y.X.calm = true) (hN : Y.X.N.Nodup) (hi : PI Y.X tg iter (rdI Y p fi)) (ok : BlkOk Y.X.N Y.X.env.scope scope own)
    (hg : InBlk Y scope fun Y => PG Y.X tg (gX Y p t)) (ht : InBlk Y scope fun Y => PTs Y.X ifs (rdT Y ft)) (he : InBlk Y scope fun Y => PE Y.X elt (rdE Y fe)) (ho : ∀ i ∈ tgSlots t, i ∈ own.map (·.2)) (hs : ∀ x, foldedSetIterable iter Y.X.env x = pure x) :
    PE Y.X (.ListComp elt [⟨tg, iter, ifs, 0⟩] scope pos) (rdE Y (lcF fi ft fe (own.map (·.2)) t)) :=
  (pe_lc (g := gX Y.nox p t) (tt := rdT Y.nox ft) (te := rdE Y.nox fe) C hN hi ok hg ht he hs).imp fun σ H Q h => rd_lc ho h
theorem sns_lc {p : Bool} {i : Nat} {y : Str} {py spos : Pos} {elt tg iter : Expr} {ifs : List Expr} {scope : Scope} {own : List (Str × Nat)} {pos : Pos} {fi : En → Mem → R W} {ft : En → Mem → R Bool} {fe : En → Mem → R W} {t : Tg} (C : Y.X.calm = true) (hN : Y.X.N.Nodup) (hy : Y.X.N[i]? = some y) (hyl : Y.X.env.scope.names.lookup y = some .local)
    (hsw : swapsWith (.ListComp elt [⟨tg, iter, ifs, 0⟩] scope pos) (some (.Name y py)) spos.line Y.X.env = pure true) (hi : PI Y.X tg iter (rdI Y p fi)) (ok : BlkOk Y.X.N Y.X.env.scope scope own)
    (hg : InBlk Y scope fun Y => PG Y.X tg (gX Y p t)) (ht : InBlk Y scope fun Y => PTs Y.X ifs (rdT Y ft)) (he : InBlk Y scope fun Y => PE Y.X elt (rdE Y fe)) (ho : ∀ i ∈ tgSlots t, i ∈ own.map (·.2)) (hs : ∀ x, foldedSetIterable iter Y.X.env x = pure x) :
    PS Y.X (.Assign [.Name y py] (.ListComp elt [⟨tg, iter, ifs, 0⟩] scope pos) spos) (tAsg (rdE Y (lcF fi ft fe (own.map (·.2)) t)) (gName i)) :=
  (ps_setLc (g := gX Y.nox p t) (tt := rdT Y.nox ft) (te := rdE Y.nox fe) C hN hy hyl hsw hi ok hg ht he hs).imp fun D σ H h => rd_lc ho h
end Lo
/-! Dict comprehensions. -/
namespace Lo
open PySem PySem.Spec PyProof.Rows L2
variable {Y : Cy}
def ARd (K : PySem.W.Frag) (w : World) : Gm → Hp → List (PyData × PyData) → HO → Prop := fun g H acc ho => ∃ ks, ho = .dK ks ∧ ks.length ≤ LINE ∧ RpK K w H g.fz acc ks
theorem ARd.keep {K : PySem.W.Frag} {w : World} : ∀ g H g2 H2 acc ho, Keeps K H g.fz H2 g2.fz → ARd K w g H acc ho → ARd K w g2 H2 acc ho := fun _ _ _ _ _ _ k ⟨vs, e, z, r⟩ => ⟨vs, e, z, r.keep k⟩
def pairD (y z : W) (m : Mem) : R (Option (Str × PyData)) := match y, laid z with
  | .d (.str k), some z => .ok (some (k, z)) m
  | _, _ => .bad
def turnD (ft : En → Mem → R Bool) (fk fe : En → Mem → R W) (tg : Tg) (ρ : En) : PyData → Mem → R (Option (Str × PyData)) := fun x m => match tgSet tg x ρ with
  | some ρ' => (ft ρ' m).bind fun b m => if b then (fk ρ' m).bind fun y m => (fe ρ' m).bind fun z m => pairD y z m else .ok none m
  | none => .bad
def dcF (fi : En → Mem → R W) (ft : En → Mem → R Bool) (fk fe : En → Mem → R W) (own : List Nat) (tg : Tg) : En → Mem → R W := fun ρ m => (fi ρ m).bind fun w m => (lcWalk (turnD ft fk fe tg (wipeE ρ own)) addD [] w m).bind fun r m => .ok (.newd r) m
theorem putK_len (kvs : List (Key × V)) (k : Key) (v : V) : (putK kvs k v).length ≤ kvs.length + 1 := by
  unfold putK
  split
  · rw [List.length_map]; omega
  · rw [List.length_append, List.length_singleton]; exact Nat.le_refl _
theorem pairD_or (y z : W) (m : Mem) : (∃ k dz, y = .d (.str k) ∧ laid z = some dz ∧ pairD y z m = .ok (some (k, dz)) m) ∨ pairD y z m = .bad := by
  unfold pairD
  split
  · rename_i k dz e
    exact .inl ⟨k, dz, rfl, e, rfl⟩
  · exact .inr rfl
theorem dc_it {J : It} {n : Nat} {G : Hp → Prop} {Yv : Nat → Hp → V → Hp → Prop} (w : Walk J n G Yv) {g : TG} {tt : TT} {tk tv : TE} {vs : List Nat} {σ : L2.St} {H1 : Hp} {D : Addr} {Qd : Hp → Prop} (Pv : Nat → Hp → Prop) (h0 : Pv 0 (upd H1 D (.dK []))) (hG : ∀ i H, i ≤ n → Pv i H → G H)
    (hs : ∀ i x H H', i < n → Pv i H → Yv i H x H' → g x (L2.wipe σ vs) H' fun σ2 H2 => L2.wipe σ2 vs = L2.wipe σ vs ∧ tt σ2 H2 fun b H3 =>
      if b = true then tk σ2 H3 fun y H4 => tv σ2 H4 fun z H5 => ∃ kvs k, y = kV k ∧ H5 D = some (.dK kvs) ∧ kvs.length < sizeLine ∧ Pv (i + 1) (upd H5 D (.dK (putK kvs k z))) else Pv (i + 1) H3) (hd : ∀ H, Pv n H → Qd H) :
    ∃ Wm : Nat → Nat → Hp → Prop, (∃ m, Wm 0 m (upd H1 D (.dK []))) ∧ ∀ i m H, Wm i m H →
      (J.stop i H ∧ Qd H) ∨ (J.go i H ∧ ∃ Nx : Hp → Prop, (∀ H', Nx H' → ∃ m', m' < m ∧ Wm (i + 1) m' H') ∧ ∀ x H', J.yld i H x H' → g x (L2.wipe σ vs) H' fun σ2 H2 => L2.wipe σ2 vs = L2.wipe σ vs ∧ tt σ2 H2 fun b H3 =>
        if b = true then tk σ2 H3 fun y H4 => tv σ2 H4 fun z H5 => ∃ kvs k, y = kV k ∧ H5 D = some (.dK kvs) ∧ kvs.length < sizeLine ∧ Nx (upd H5 D (.dK (putK kvs k z))) else Nx H3) := by
  refine ⟨fun i m H => m = n - i ∧ i ≤ n ∧ Pv i H, ⟨n, by simp, Nat.zero_le _, h0⟩, ?_⟩
  rintro i m H ⟨rfl, hi, p⟩
  have q := hG i H hi p
  rcases Nat.lt_or_eq_of_le hi with hlt | rfl
  · exact .inr ⟨w.goes i H hlt q, Pv (i + 1), fun H' p' => ⟨n - (i + 1), by omega, rfl, hlt, p'⟩, fun x H' y => hs i x H H' hlt p (w.yields i H x H' hlt q y)⟩
  · exact .inl ⟨w.stops H q, hd H p⟩
theorem rd_dc {p : Bool} {fi : En → Mem → R W} {ft : En → Mem → R Bool} {fk fe : En → Mem → R W} {own : List Nat} {tg : Tg} {σ : L2.St} {H : Hp} {Q : VK} (ho : ∀ i ∈ tgSlots tg, i ∈ own) (h : rdE Y (dcF fi ft fk fe own tg) σ H Q) :
    tDc (rdI Y p fi) (gX Y.nox p tg) (rdT Y.nox ft) (rdE Y.nox fk) (rdE Y.nox fe) own σ H Q := by
  obtain ⟨ρ, m, g, S, E, h⟩ := h
  refine ⟨ρ, m, g, S, E, ?_⟩
  unfold dcF at h
  cases q : fi ρ m with
  | bad => rw [q] at h; exact h.elim
  | exc c m1 => rw [q] at h; exact h
  | ok wv m1 =>
    rw [q] at h
    obtain ⟨ds, r, m', e1, e2, h⟩ := lcWalk_ok (P := fun r => Pst Y (relW Y) g H σ r Q) (fun z => z) h
    refine ⟨ds, e1, fun J H1 g1 s1 x1 wd D hD => ?_⟩
    have hlk : ∀ n, lockOf m1 wv = some n → ∃ xs, m1[n]? = some (.lst xs) := fun n e => (lockOf_some e).2
    obtain ⟨G, Yv, wk, wd⟩ := wd.ex
    refine dc_it wk (CSt Y.X.K Y.X.w (ARd Y.X.K Y.X.w) (turnD ft fk fe tg (wipeE ρ own)) addD ds r m' (g1.lock (lockOf m1 wv)) H1 D) ?_ (fun i H2 _ c => ?_) (fun i x H2 H3 hi c hy => ?_) fun H2 c => ?_
    · exact CSt.start s1 hlk hD ⟨[], rfl, Nat.zero_le _, .nil⟩ e2
    · obtain ⟨acc, m2, g2, ho, S2, E2, _⟩ := c
      exact (wd g2 H2 E2.1).1
    · obtain ⟨acc, m2, g2, hob, d, S3, E3, hD3, ha, hm3, hf3, ri, eg⟩ := c.turn ARd.keep wd hi hy
      have eg : R.bind (turnD ft fk fe tg (wipeE ρ own) d m2) (fun o m => lcAdd addD (lcGo (turnD ft fk fe tg (wipeE ρ own)) addD (ds.drop (i + 1))) acc o m) = .ok r m' := eg
      cases et : tgSet tg d (wipeE ρ own) with
      | none =>
        have et' : turnD ft fk fe tg (wipeE ρ own) d m2 = .bad := by unfold turnD; rw [et]
        rw [et'] at eg; cases eg
      | some ρ' =>
        have et' : turnD ft fk fe tg (wipeE ρ own) d m2 = (ft ρ' m2).bind fun b m => if b then (fk ρ' m).bind fun y m => (fe ρ' m).bind fun z m => pairD y z m else .ok none m := by unfold turnD; rw [et]
        rw [et'] at eg
        have E1 := (E.keep S x1.1).lock (k := lockOf m1 wv)
        have E2 : Er Y.X.K Y.X.w Y.sx g2 H3 ρ σ := E1.keep (s1.lock hlk) E3.1
        refine gX_mk (Y := Y.nox) (m := m2) S3 (E2.wipe own) ri et fun σ' E' chg => ⟨(chg own ho).trans (wipe_wipe σ own own fun _ h => h), ?_⟩
        refine ⟨ρ', m2, g2, S3, E', ?_⟩
        cases eft : ft ρ' m2 with
        | bad => rw [eft] at eg; cases eg
        | exc c m3 => rw [eft] at eg; cases eg
        | ok b m3 =>
          rw [eft] at eg
          intro b' H5 g5 S5 x5 eb
          cases eb
          have hD5 : H5 D = some hob := x5.1.keep _ _ hD3 (.inl hm3)
          have hm5 : D ∉ g5.mu := by rw [x5.2]; exact hm3
          have hf5 : ¬ g5.fz D := nfz_of x5.1 hD3 hf3
          have ha5 := ARd.keep (K := Y.X.K) (w := Y.X.w) g2 H3 g5 H5 acc hob (x5.1.keeps S3) ha
          have E5 := E3.trans S3 x5
          cases b with
          | false =>
            rw [if_neg Bool.false_ne_true]
            exact ⟨acc, m3, g5, hob, S5, E5, hD5, ha5, hm5, hf5, eg⟩
          | true =>
            rw [if_pos rfl]
            have eg : R.bind ((fk ρ' m3).bind fun y m => (fe ρ' m).bind fun z m => pairD y z m) (fun o m => lcAdd addD (lcGo (turnD ft fk fe tg (wipeE ρ own)) addD (ds.drop (i + 1))) acc o m) = .ok r m' := eg
            refine ⟨ρ', m3, g5, S5, E'.keep S3 x5.1, ?_⟩
            cases efk : fk ρ' m3 with
            | bad => rw [efk] at eg; cases eg
            | exc c m4 => rw [efk] at eg; cases eg
            | ok y m4 =>
              rw [efk] at eg
              intro yv H6 g6 S6 x6 ry
              have ry : relW Y g6 H5 H6 y yv := ry
              have eg : R.bind ((fe ρ' m4).bind fun z m => pairD y z m) (fun o m => lcAdd addD (lcGo (turnD ft fk fe tg (wipeE ρ own)) addD (ds.drop (i + 1))) acc o m) = .ok r m' := eg
              refine ⟨ρ', m4, g6, S6, (E'.keep S3 x5.1).keep S5 x6.1, ?_⟩
              cases efe : fe ρ' m4 with
              | bad => rw [efe] at eg; cases eg
              | exc c m5 => rw [efe] at eg; cases eg
              | ok z m5 =>
                rw [efe] at eg
                intro zv H7 g7 S7 x7 rz
                have rz : relW Y g7 H6 H7 z zv := rz
                have eg : R.bind (pairD y z m5) (fun o m => lcAdd addD (lcGo (turnD ft fk fe tg (wipeE ρ own)) addD (ds.drop (i + 1))) acc o m) = .ok r m' := eg
                rcases pairD_or y z m5 with ⟨k, dz, ey, el, ep⟩ | ep
                · subst ey
                  rw [ep] at eg
                  have eg : lcAdd addD (lcGo (turnD ft fk fe tg (wipeE ρ own)) addD (ds.drop (i + 1))) acc (some (k, dz)) m5 = .ok r m' := eg
                  unfold lcAdd at eg
                  dsimp only at eg
                  obtain ⟨ks, rfl, hz, ra⟩ := ha5
                  obtain ⟨rfl, hk⟩ := Rp.strI (show Rp Y.X.K Y.X.w H6 g6.fz (.str k) yv from ry.1)
                  cases ead : addD (k, dz) acc with
                  | none => rw [ead] at eg; cases eg
                  | some acc2 =>
                    rw [ead] at eg
                    unfold addD at ead
                    split at ead
                    · rename_i hlt
                      cases ead
                      have hm6 : D ∉ g6.mu := by rw [x6.2]; exact hm5
                      have hD6 : H6 D = some (.dK ks) := x6.1.keep _ _ hD5 (.inl hm5)
                      have hf6 : ¬ g6.fz D := nfz_of x6.1 hD5 hf5
                      have hD7 : H7 D = some (.dK ks) := x7.1.keep _ _ hD6 (.inl hm6)
                      have hlv : ks.length < LINE := by rw [← ra.length]; exact hlt
                      refine ⟨ks, Sum.inr k, rfl, hD7, by rw [line_eq]; exact hlv, ?_⟩
                      have S8 := ice_sr (H0 := H6) S7
                      have x8 := ice_ext (H := H7) x7
                      have rd := ice_laid (H0 := H6) rz.1 rz.2 el
                      have hm8 : D ∉ (g7.ice H6 H7).mu := by show D ∉ g7.mu; rw [x7.2]; exact hm6
                      have hf8 : ¬ (g7.ice H6 H7).fz D := nfz_of x8.1 hD6 hf6
                      have k8 := over_keeps (K := Y.X.K) (o := .dK (putK ks (Sum.inr k) zv)) hD7 hf8 fun _ _ z => nomatch z
                      refine ⟨storeS k dz acc, m5, g7.ice H6 H7, .dK (putK ks (Sum.inr k) zv), S8.over hD7 hm8 hf8 (fun _ _ z => nomatch z), ((E5.trans S5 x6).trans S6 x8).over hD, upd_same, ⟨_, rfl, ?_, ?_⟩, hm8, hf8, eg⟩
                      · have := putK_len ks (Sum.inr k) zv
                        omega
                      · exact (RpK.store ((ra.keep (x6.1.keeps S5)).keep (x8.1.keeps S6)) hk rd).keep k8
                    · cases ead
                · rw [ep] at eg; cases eg
    · obtain ⟨acc, m2, g2, hob, S2, E2, hD2, ⟨vs, rfl, hz, ra⟩, hm2, hf2, eg⟩ := c
      rw [List.drop_length] at eg
      have eg : R.ok acc m2 = R.ok r m' := eg
      cases eg
      have hu : ∀ n, lockOf m1 wv = some n → n < g1.mu.length ∧ ∀ a, g1.mu[n]? = some a → ¬ g1.lk a := fun n e => by
        obtain ⟨xs, ex⟩ := hlk n e
        exact ⟨by rw [s1.len]; exact (List.getElem?_eq_some_iff.mp ex).1, fun a ha => s1.free ha ex fun _ z => nomatch z⟩
      have hmu : g2.mu = g1.mu := by rw [E2.2]; exact Gm.lock_mu
      have x2 : Ext0 g1 H1 (g2.relk g1.lk) H2 := ⟨E2.1.unlock, hmu⟩
      exact h.done (S2.unlock E2.1 hu) (x1.trans s1 x2) ⟨D, vs, rfl, hD2, hz, ra, hf2, hm2⟩ fun a e => by
        cases e; exact x1.1.none_of s1 hD
theorem snd_dc {p : Bool} {kx elt tg iter : Expr} {ifs : List Expr} {scope : Scope} {own : List (Str × Nat)} {pos : Pos} {fi : En → Mem → R W} {ft : En → Mem → R Bool} {fk fe : En → Mem → R W} {t : Tg} (C : Y.X.calm = true) (hN : Y.X.N.Nodup) (hi : PI Y.X tg iter (rdI Y p fi)) (ok : BlkOk Y.X.N Y.X.env.scope scope own)
    (hg : InBlk Y scope fun Y => PG Y.X tg (gX Y p t)) (ht : InBlk Y scope fun Y => PTs Y.X ifs (rdT Y ft)) (hk : InBlk Y scope fun Y => PE Y.X kx (rdE Y fk)) (he : InBlk Y scope fun Y => PE Y.X elt (rdE Y fe)) (ho : ∀ i ∈ tgSlots t, i ∈ own.map (·.2)) (hs : ∀ x, foldedSetIterable iter Y.X.env x = pure x) :
    PE Y.X (.DictComp kx elt [⟨tg, iter, ifs, 0⟩] scope pos) (rdE Y (dcF fi ft fk fe (own.map (·.2)) t)) :=
  (pe_dc (g := gX Y.nox p t) (tt := rdT Y.nox ft) (tk := rdE Y.nox fk) (tv := rdE Y.nox fe) C hN hi ok hg ht hk he hs).imp fun σ H Q h => rd_dc ho h
end Lo
/-! The size of a set comprehension of texts. -/
namespace Lo
open PySem PySem.Spec PyProof.Rows L2
section
variable {X : Cx}
theorem setK_fresh {P : Program} {h : Heap} (w : World) : (h.push { cls := .type "set", dict := none, data := .set #[] 0 (.fresh 0 0 (!w.params.followText "set-order")) }).SetOf (mixKind P w) h.objs.size (fun _ => false) 0 :=
  ⟨_, #[], 0, _, Heap.get?_push_size _ rfl, ⟨rfl, rfl, rfl⟩, rfl, (fun e he => by simp at he), (fun k => by simp), (by decide), (by rfl), rfl⟩
theorem addK_ok {pins : List (Addr × Obj)} {σ : L2.St} {H : Hp} {s : Shared} {E : Value → Shared → Prop} {D : Addr} {S : Key → Bool} {n : Nat} {y : Key} {v : Value} {Q : Value → Shared → Prop} (I : Inv X pins σ H s) (hD : H D = some (SetK X.prog X.w D S n)) (rv : RelV (kV y) v) (room : n + 1 < scanBound)
    (h : ∀ s', Inv X pins σ (upd H D (SetK X.prog X.w D (fun j => S j || decide (j = y)) (if S y = true then n else n + 1))) s' → Q .none s') : wpAny (model X.prog X.w) X.A (call (.builtin "set.add") [.ref D, v]) Q E s :=
  call_set_add (kV_is rv) (key_scan rv) (setK_get I hD) room fun h' sb new =>
    h _ (I.write (e := D) (t' := s.toks + 1) (by rw [hD]; trivial) (.inl rfl) (fun b u hb hu => (sb.2 b hb).trans hu) (let ⟨o, _, _, _, ho, _⟩ := new; ⟨o, ho⟩) (setK_new new))
/-- {elt for target in iter if ..}, elt a key: D the new set -/
def tScK (P : Program) (w : World) (wi : TI) (g : TG) (tt : TT) (te : TE) (vs : List Nat) : TE := fun σ H Q => wi σ H fun J H1 => ∀ D, H1 D = none → ∃ W : Nat → Nat → Hp → Prop, (∃ m, W 0 m (upd H1 D (SetK P w D (fun _ => false) 0))) ∧ ∀ i m H, W i m H →
  (J.stop i H ∧ Q (.ref D) H) ∨ (J.go i H ∧ ∃ Nx : Hp → Prop, (∀ H', Nx H' → ∃ m', m' < m ∧ W (i + 1) m' H') ∧ ∀ x H', J.yld i H x H' → g x (L2.wipe σ vs) H' fun σ2 H2 => L2.wipe σ2 vs = L2.wipe σ vs ∧ tt σ2 H2 fun b H3 =>
    if b = true then te σ2 H3 fun y H4 => ∃ (c : Key) (S : Key → Bool) (n : Nat), y = kV c ∧ H4 D = some (SetK P w D S n) ∧ n + 1 < scanBound ∧ Nx (upd H4 D (SetK P w D (fun j => S j || decide (j = c)) (if S c = true then n else n + 1))) else Nx H3)
theorem sck_core {pins : List (Addr × Obj)} {s : Shared} {σ : L2.St} {H : Hp} {Q : VK} {elt tg iter : Expr} {ifs : List Expr} {scope : Scope} {own : List (Str × Nat)} {pos pos' : Pos} {wi : TI} {g : TG} {tt : TT} {te : TE} {use : Option (Value → Sem Unit)} {Qf : Value → Shared → Prop}
    (hc : X.calm = true) (hN : X.N.Nodup) (I : Inv X pins σ H s) (hi : PI X tg iter wi) (ok : BlkOk X.N X.env.scope scope own)
    (hg : ∀ (s : Shared) (H : Hp) (C : Addr) (cl : List (Str × Addr)) (fp : List Addr), PG (X.blk s H scope (compEnvC scope cl C X.env) fp) tg g) (ht : ∀ (s : Shared) (H : Hp) (C : Addr) (cl : List (Str × Addr)) (fp : List Addr), PTs (X.blk s H scope (compEnvC scope cl C X.env) fp) ifs tt)
    (he : ∀ (s : Shared) (H : Hp) (C : Addr) (cl : List (Str × Addr)) (fp : List Addr), PE (X.blk s H scope (compEnvC scope cl C X.env) fp) elt te) (hs : ∀ x, foldedSetIterable iter X.env x = pure x)
    (h : tScK X.prog X.w wi g tt te (own.map (·.2)) σ H Q)
    (hRR : ∀ D C s' m H', Inv X pins σ H' s' → Q (.ref D) H' → s'.heap.Ns C m → FpOk X pins H' C → compPost (model X.prog X.w) X.A X.xe use Qf (.ref D) C (.ok .next) s') :
    wpAny (model X.prog X.w) X.A (comprehension (.SetComp elt [⟨tg, iter, ifs, 0⟩] scope pos) scope X.env pos' (newSet (.type "set")) false (eval iter X.env) use) Qf X.xe s := by
  have hfree : ∀ y ∈ scope.names, y.2 = .free → ∃ c, X.env.cells.lookup y.1 = some c := fun y hy e => by
    rcases ok.free y hy e with k | k
    · exact I.ok.has _ (.inl k)
    · exact I.ok.has _ (.inr k)
  refine wpAny_comprehension_free (use := use) rfl hs (closure_ok hfree) ok.kind (fun y hy e => by rw [ok.uniq y hy, e])
    (thn (hi.run pins s σ H _ I h) fun xv s1 hx => thn hx fun itv s2 h2 => ?_)
  obtain ⟨it, fp, tn, J, H2, e, I2, T, st2, f2, q⟩ := h2
  subst e
  refine PpSet.newSet_ok (newEnv_comp ?_)
  generalize hD : s2.heap.objs.size = D
  have hDn : H2 D = none := I2.hok.fresh (Nat.le_of_eq hD)
  obtain ⟨W, ⟨m0, w0⟩, turn⟩ := q D hDn
  -- the new list
  generalize hs3 : ({ s2 with heap := s2.heap.push { cls := .type "set", dict := none, data := .set #[] 0 (.fresh 0 0 (!X.w.params.followText "set-order")) } } : Shared) = s3
  have I3 : Inv X pins σ (upd H2 D (SetK X.prog X.w D (fun _ => false) 0)) s3 := by
    rw [← hs3]
    refine I2.laid (t' := s2.toks) (fun b o e => Heap.get?_push_of_some _ e) (Nat.le_of_eq hD) ?_
    rw [← hD]
    exact setK_new (setK_fresh X.w)
  have h3 : s3.heap = s2.heap.push { cls := .type "set", dict := none, data := .set #[] 0 (.fresh 0 0 (!X.w.params.followText "set-order")) } := by rw [← hs3]
  have sz : ∀ b ∈ fp, b < s2.heap.objs.size := fun b hb => by
    obtain ⟨o, e, _⟩ := T.obj _ _ st2 b hb
    exact Heap.lt_size e
  have f3 : ∀ b ∈ fp, FpOk X pins (upd H2 D (SetK X.prog X.w D (fun _ => false) 0)) b ∧ b < s3.heap.objs.size := fun b hb => by
    have hlt := sz b hb
    refine ⟨⟨?_, (f2 b hb).2⟩, by rw [h3, Heap.size_push]; exact Nat.lt_succ_of_lt hlt⟩
    rw [upd_ne (by rw [← hD]; exact Nat.ne_of_lt hlt)]
    exact (f2 b hb).1
  have st3 : tn 0 s3.heap := T.keep _ _ _ st2 fun b _ o e => by rw [h3]; exact Heap.get?_push_of_some _ e
  have I4 := block_start I3 ok hN f3
  have pg := hg s3 (upd H2 D (SetK X.prog X.w D (fun _ => false) 0)) s3.heap.objs.size (cellsFrom (s3.heap.objs.size + 1) scope.names (cloFrom X.env.cells scope.names [])) fp
  have pt := ht s3 (upd H2 D (SetK X.prog X.w D (fun _ => false) 0)) s3.heap.objs.size (cellsFrom (s3.heap.objs.size + 1) scope.names (cloFrom X.env.cells scope.names [])) fp
  have pe := he s3 (upd H2 D (SetK X.prog X.w D (fun _ => false) 0)) s3.heap.objs.size (cellsFrom (s3.heap.objs.size + 1) scope.names (cloFrom X.env.cells scope.names [])) fp
  show codeAny _ _ (.compStart (.SetComp elt [⟨tg, iter, ifs, 0⟩] scope pos) 0 (.ref it) (.ref D) (compEnvC scope (cellsFrom (s3.heap.objs.size + 1) scope.names (cloFrom X.env.cells scope.names [])) s3.heap.objs.size X.env)) (compPost (model X.prog X.w) X.A X.xe use Qf (.ref D) s3.heap.objs.size) { s3 with heap := pushCells (s3.heap.push { cls := .type "dict", data := .dict #[] }) scope.names }
  have nfp : ∀ b ∈ fp, (upd H2 D (SetK X.prog X.w D (fun _ => false) 0)) b = none := fun b hb => (f3 b hb).1.1
  generalize hce : compEnvC scope (cellsFrom (s3.heap.objs.size + 1) scope.names (cloFrom X.env.cells scope.names [])) s3.heap.objs.size X.env = ce at I4 pg pt pe ⊢
  have cL : ce.locals = s3.heap.objs.size := by subst hce; rfl
  generalize hH3 : upd H2 D (SetK X.prog X.w D (fun _ => false) 0) = H3 at I3 I4 pg pt pe w0 nfp f3
  generalize hs4 : ({ s3 with heap := pushCells (s3.heap.push { cls := .type "dict", data := .dict #[] }) scope.names } : Shared) = s4 at I4 ⊢
  have st4 : tn 0 s4.heap := T.keep _ _ _ st3 fun b _ o e => by rw [← hs4]; exact pushCells_keeps _ _ _ _ (Heap.get?_push_of_some _ e)
  have stat : ∀ {σ' : L2.St} {H' : Hp} {s' : Shared}, Inv (X.blk s3 H3 scope ce fp) [] σ' H' s' → (∀ b ∈ fp, H' b = none) → ∀ b ∈ fp, FpOk (X.blk s3 H3 scope ce fp) [] H' b := fun {σ' H' s'} I' hn b hb =>
    ⟨hn b hb, (I'.ok.exf b hb).1, I'.ok.exfs b hb, .inl hb, fun x c e => (I'.ok.exf b hb).2 x c e, fun p hp => absurd (show p ∈ ([] : List (Addr × Obj)) ++ [] from hp) (by simp)⟩
  have loop : codeAny (model X.prog X.w) X.A (.compLoop (.SetComp elt [⟨tg, iter, ifs, 0⟩] scope pos) 0 (.ref it) (.ref D) ce) (compPost (model X.prog X.w) X.A X.xe use Qf (.ref D) s3.heap.objs.size) s4 := by
    refine PpSet.compLoopS_any (fun n s' => ∃ i H', Inv (X.blk s3 H3 scope ce fp) [] (L2.wipe σ (own.map (·.2))) H' s' ∧ tn i s'.heap ∧ (∀ b ∈ fp, H' b = none) ∧ W i n H') ?_ m0 ⟨0, H3, I4, st4, nfp, w0⟩
    rintro n s5 ⟨i, H5, I5, st5, n5, w5⟩
    rcases turn i n H5 w5 with ⟨stop, qq⟩ | ⟨go, Nx, hNx, step⟩
    · have td := T.done (X.blk s3 H3 scope ce fp) rfl rfl rfl hc i [] s5 _ H5 (fun _ _ => False) I5 (stat I5 n5) st5 stop
      refine thnF td fun r s6 ⟨hr, I6⟩ => ?_
      subst hr
      -- back in the def's context
      have I7 : Inv X pins σ H5 s6 := I3.call' (ch := fp) I6.os I6.base I6.hok I6.bare fun b hb => ⟨(f3 b hb).1.2.2.2.1, (f3 b hb).1.2.1, (f3 b hb).1.2.2.2.2.1, (f3 b hb).1.2.2.2.2.2⟩
      have nC : H5 s3.heap.objs.size = none := by
        have z : H5 ce.locals = none := I6.free
        rw [cL] at z
        exact z
      obtain ⟨m, hn, _⟩ := I6.loc
      have hn : s6.heap.Ns ce.locals m := hn
      rw [cL] at hn
      exact hRR D s3.heap.objs.size s6 m H5 I7 qq hn (I3.fpOk (Nat.le_refl _) nC)
    · have ti := T.item (X.blk s3 H3 scope ce fp) rfl rfl rfl hc i [] s5 _ H5 (fun _ _ => False) I5 (stat I5 n5) st5 go
      refine thnF ti fun r s6 ⟨u, hr, h6⟩ => ?_
      subst hr
      refine thnF h6 fun _ s7 ⟨x, H7, I7, r7, y7, st7, n7⟩ => ?_
      have I7' := I7.pinned (stat I7 n7) (T.obj _ _ st7)
      refine thnF (pg.run _ s7 _ H7 x u _ I7' r7 (step x H7 y7)) fun _ s8 ⟨σ8, H8, I8, hw8, q8⟩ => ?_
      refine thnF (pt.run _ s8 σ8 H8 _ I8 q8) fun b s9 ⟨H9, I9, q9⟩ => ?_
      -- the turn's end
      have fin : ∀ {s' : Shared} {H' : Hp}, Inv (X.blk s3 H3 scope ce fp) ([] ++ pinsAt fp s7.heap) σ8 H' s' → Nx H' → ∃ m, m < n ∧ ∃ i H', Inv (X.blk s3 H3 scope ce fp) [] (L2.wipe σ (own.map (·.2))) H' s' ∧ tn i s'.heap ∧ (∀ b ∈ fp, H' b = none) ∧ W i m H' := fun {s' H'} I' nx => by
        obtain ⟨m', hm, w'⟩ := hNx H' nx
        have pin' : ∀ b ∈ fp, ∀ o, s7.heap.get? b = some o → s'.heap.get? b = some o ∧ H' b = none := fun b hb o e =>
          let z := I'.pin (b, o) (List.mem_append_right _ (List.mem_append_right _ (mem_pinsAt hb e)))
          ⟨z.1, z.2.1⟩
        have hl : (L2.wipe σ (own.map (·.2))).length = σ8.length := by rw [← hw8, L2.wipe_length]
        refine ⟨m', hm, i + 1, H', (I'.unpinned (pins := [])).weak hl (fun j v e => ?_), T.keep _ _ _ st7 fun b hb o e => (pin' b hb o e).1, fun b hb => ?_, w'⟩
        · rw [← hw8] at e
          exact (L2.wipe_some e).1
        · obtain ⟨o, e, _⟩ := T.obj _ _ st7 b hb
          exact (pin' b hb o e).2
      cases b with
      | false =>
        simp only [Bool.false_eq_true, if_false] at q9 ⊢
        exact fin I9 q9
      | true =>
        simp only [if_true] at q9 ⊢
        refine thnF (pe.run _ s9 σ8 H9 _ I9 q9) fun z s10 ⟨yv, H10, I10, r10, cb, S0, n0, ey, hD10, hz10, nx⟩ => ?_
        subst ey
        exact addK_ok (X := X.blk s3 H3 scope ce fp) I10 hD10 r10 hz10 fun s11 I11 => fin I11 nx
  exact PpSet.codeAny_compStart_set loop (T.self X.A 0 _ _ _ st4 loop)
theorem pe_scK {elt tg iter : Expr} {ifs : List Expr} {scope : Scope} {own : List (Str × Nat)} {pos : Pos} {wi : TI} {g : TG} {tt : TT} {te : TE} (hc : X.calm = true) (hN : X.N.Nodup) (hi : PI X tg iter wi) (ok : BlkOk X.N X.env.scope scope own)
    (hg : ∀ (s : Shared) (H : Hp) (C : Addr) (cl : List (Str × Addr)) (fp : List Addr), PG (X.blk s H scope (compEnvC scope cl C X.env) fp) tg g) (ht : ∀ (s : Shared) (H : Hp) (C : Addr) (cl : List (Str × Addr)) (fp : List Addr), PTs (X.blk s H scope (compEnvC scope cl C X.env) fp) ifs tt)
    (he : ∀ (s : Shared) (H : Hp) (C : Addr) (cl : List (Str × Addr)) (fp : List Addr), PE (X.blk s H scope (compEnvC scope cl C X.env) fp) elt te) (hs : ∀ x, foldedSetIterable iter X.env x = pure x) :
    PE X (.SetComp elt [⟨tg, iter, ifs, 0⟩] scope pos) (tScK X.prog X.w wi g tt te (own.map (·.2))) := by
  refine ⟨fun pins s σ H Q I h => ?_⟩
  rw [PpSet.eval_SetComp]
  refine sck_core hc hN I hi ok hg ht he hs h fun D C s' m H' I' q hn ⟨f0, f1, f2, f3, f4, f5⟩ => ⟨m, hn, fun h'' sb => ?_⟩
  exact ⟨.ref D, H', I'.turned (t' := s'.toks) (fun b o hb e => (sb.2 b hb).trans e) f0 f1 f3 f4 f5, rfl, q⟩
end
section
variable {X : Cx}
theorem call_lenK : CallR X (.builtin "len") (fun xs H Q => ∃ a S n, xs = [V.ref a] ∧ H a = some (SetK X.prog X.w a S n) ∧ Q (.int (n : Nat)) H) := by
  intro pins s σ H xs us Q I r ⟨a, S, n, ex, ha, q⟩
  subst ex
  obtain ⟨u, rfl, ru⟩ := vals1 r
  cases ru
  obtain ⟨o, es, ep, t, h1, h2, h3, _, _, h4, h5, h6⟩ := setK_get I ha
  have hb : scanBound = 4096 := rfl
  exact call_len_set h1 h2 h3 h5 (by omega) ⟨.int (n : Nat), H, I.tok _, ⟨_, by rw [h6]⟩, q⟩
end
variable {Y : Cy}
def ARs (P : Program) (w : World) (D : Addr) : Gm → Hp → List Str → HO → Prop := fun _ _ acc ho => ∃ S, ho = SetK P w D S acc.length ∧ ∀ k, S (Sum.inr k) = true ↔ k ∈ acc
theorem ARs.keep {K : PySem.W.Frag} {P : Program} {w : World} {D : Addr} : ∀ g H g2 H2 acc ho, Keeps K H g.fz H2 g2.fz → ARs P w D g H acc ho → ARs P w D g2 H2 acc ho := fun _ _ _ _ _ _ _ h => h
def txtS (y : W) (m : Mem) : R (Option Str) := match y with
  | .d (.str k) => .ok (some k) m
  | _ => .bad
theorem txtS_or (y : W) (m : Mem) : (∃ k, y = .d (.str k) ∧ txtS y m = .ok (some k) m) ∨ txtS y m = .bad := by
  unfold txtS
  split
  · exact .inl ⟨_, rfl, rfl⟩
  · exact .inr rfl
def turnS (ft : En → Mem → R Bool) (fe : En → Mem → R W) (tg : Tg) (ρ : En) : PyData → Mem → R (Option Str) := fun x m => match tgSet tg x ρ with
  | some ρ' => (ft ρ' m).bind fun b m => if b then (fe ρ' m).bind txtS else .ok none m
  | none => .bad
def sclF (fi : En → Mem → R W) (ft : En → Mem → R Bool) (fe : En → Mem → R W) (own : List Nat) (tg : Tg) : En → Mem → R W := fun ρ m => (fi ρ m).bind fun w m => (lcWalk (turnS ft fe tg (wipeE ρ own)) addS [] w m).bind fun r m => .ok (.d (.int (r.length : Nat))) m
theorem sc_it {J : It} {n : Nat} {G : Hp → Prop} {Yv : Nat → Hp → V → Hp → Prop} (w : Walk J n G Yv) {P : Program} {wd : World} {g : TG} {tt : TT} {te : TE} {vs : List Nat} {σ : L2.St} {H1 : Hp} {D : Addr} {Qd : Hp → Prop} (Pv : Nat → Hp → Prop) (h0 : Pv 0 (upd H1 D (SetK P wd D (fun _ => false) 0))) (hG : ∀ i H, i ≤ n → Pv i H → G H)
    (hs : ∀ i x H H', i < n → Pv i H → Yv i H x H' → g x (L2.wipe σ vs) H' fun σ2 H2 => L2.wipe σ2 vs = L2.wipe σ vs ∧ tt σ2 H2 fun b H3 =>
      if b = true then te σ2 H3 fun y H4 => ∃ (c : Key) (S : Key → Bool) (n : Nat), y = kV c ∧ H4 D = some (SetK P wd D S n) ∧ n + 1 < scanBound ∧ Pv (i + 1) (upd H4 D (SetK P wd D (fun j => S j || decide (j = c)) (if S c = true then n else n + 1))) else Pv (i + 1) H3) (hd : ∀ H, Pv n H → Qd H) :
    ∃ Wm : Nat → Nat → Hp → Prop, (∃ m, Wm 0 m (upd H1 D (SetK P wd D (fun _ => false) 0))) ∧ ∀ i m H, Wm i m H →
      (J.stop i H ∧ Qd H) ∨ (J.go i H ∧ ∃ Nx : Hp → Prop, (∀ H', Nx H' → ∃ m', m' < m ∧ Wm (i + 1) m' H') ∧ ∀ x H', J.yld i H x H' → g x (L2.wipe σ vs) H' fun σ2 H2 => L2.wipe σ2 vs = L2.wipe σ vs ∧ tt σ2 H2 fun b H3 =>
        if b = true then te σ2 H3 fun y H4 => ∃ (c : Key) (S : Key → Bool) (n : Nat), y = kV c ∧ H4 D = some (SetK P wd D S n) ∧ n + 1 < scanBound ∧ Nx (upd H4 D (SetK P wd D (fun j => S j || decide (j = c)) (if S c = true then n else n + 1))) else Nx H3) := by
  refine ⟨fun i m H => m = n - i ∧ i ≤ n ∧ Pv i H, ⟨n, by simp, Nat.zero_le _, h0⟩, ?_⟩
  rintro i m H ⟨rfl, hi, p⟩
  have q := hG i H hi p
  rcases Nat.lt_or_eq_of_le hi with hlt | rfl
  · exact .inr ⟨w.goes i H hlt q, Pv (i + 1), fun H' p' => ⟨n - (i + 1), by omega, rfl, hlt, p'⟩, fun x H' y => hs i x H H' hlt p (w.yields i H x H' hlt q y)⟩
  · exact .inl ⟨w.stops H q, hd H p⟩
theorem rd_scl {p : Bool} {fi : En → Mem → R W} {ft : En → Mem → R Bool} {fe : En → Mem → R W} {own : List Nat} {tg : Tg} {σ : L2.St} {H : Hp} {Q : VK} (ho : ∀ i ∈ tgSlots tg, i ∈ own) (h : rdE Y (sclF fi ft fe own tg) σ H Q) :
    tScK Y.X.prog Y.X.w (rdI Y p fi) (gX Y.nox p tg) (rdT Y.nox ft) (rdE Y.nox fe) own σ H fun v H2 => ∃ D S n, [v] = [V.ref D] ∧ H2 D = some (SetK Y.X.prog Y.X.w D S n) ∧ Q (.int (n : Nat)) H2 := by
  obtain ⟨ρ, m, g, S, E, h⟩ := h
  refine ⟨ρ, m, g, S, E, ?_⟩
  unfold sclF at h
  cases q : fi ρ m with
  | bad => rw [q] at h; exact h.elim
  | exc c m1 => rw [q] at h; exact h
  | ok wv m1 =>
    rw [q] at h
    obtain ⟨ds, r, m', e1, e2, h⟩ := lcWalk_ok (P := fun r => Pst Y (relW Y) g H σ r Q) (fun z => z) h
    refine ⟨ds, e1, fun J H1 g1 s1 x1 wd D hD => ?_⟩
    have hlk : ∀ n, lockOf m1 wv = some n → ∃ xs, m1[n]? = some (.lst xs) := fun n e => (lockOf_some e).2
    obtain ⟨G, Yv, wk, wd⟩ := wd.ex
    refine sc_it wk (CSt Y.X.K Y.X.w (ARs Y.X.prog Y.X.w D) (turnS ft fe tg (wipeE ρ own)) addS ds r m' (g1.lock (lockOf m1 wv)) H1 D) ?_ (fun i H2 _ c => ?_) (fun i x H2 H3 hi c hy => ?_) fun H2 c => ?_
    · exact CSt.start s1 hlk hD ⟨_, rfl, fun k => by simp⟩ e2
    · obtain ⟨acc, m2, g2, ho, S2, E2, _⟩ := c
      exact (wd g2 H2 E2.1).1
    · obtain ⟨acc, m2, g2, hob, d, S3, E3, hD3, ha, hm3, hf3, ri, eg⟩ := c.turn (ARs.keep (K := Y.X.K) (P := Y.X.prog) (w := Y.X.w) (D := D)) wd hi hy
      have eg : R.bind (turnS ft fe tg (wipeE ρ own) d m2) (fun o m => lcAdd addS (lcGo (turnS ft fe tg (wipeE ρ own)) addS (ds.drop (i + 1))) acc o m) = .ok r m' := eg
      cases et : tgSet tg d (wipeE ρ own) with
      | none =>
        have et' : turnS ft fe tg (wipeE ρ own) d m2 = .bad := by unfold turnS; rw [et]
        rw [et'] at eg; cases eg
      | some ρ' =>
        have et' : turnS ft fe tg (wipeE ρ own) d m2 = (ft ρ' m2).bind fun b m => if b then (fe ρ' m).bind txtS else .ok none m := by unfold turnS; rw [et]
        rw [et'] at eg
        have E1 := (E.keep S x1.1).lock (k := lockOf m1 wv)
        have E2 : Er Y.X.K Y.X.w Y.sx g2 H3 ρ σ := E1.keep (s1.lock hlk) E3.1
        refine gX_mk (Y := Y.nox) (m := m2) S3 (E2.wipe own) ri et fun σ' E' chg => ⟨(chg own ho).trans (wipe_wipe σ own own fun _ h => h), ?_⟩
        refine ⟨ρ', m2, g2, S3, E', ?_⟩
        cases eft : ft ρ' m2 with
        | bad => rw [eft] at eg; cases eg
        | exc c m3 => rw [eft] at eg; cases eg
        | ok b m3 =>
          rw [eft] at eg
          intro b' H5 g5 S5 x5 eb
          cases eb
          have hD5 : H5 D = some hob := x5.1.keep _ _ hD3 (.inl hm3)
          have hm5 : D ∉ g5.mu := by rw [x5.2]; exact hm3
          have hf5 : ¬ g5.fz D := nfz_of x5.1 hD3 hf3
          have ha5 := ARs.keep (K := Y.X.K) (P := Y.X.prog) (w := Y.X.w) (D := D) g2 H3 g5 H5 acc hob (x5.1.keeps S3) ha
          have E5 := E3.trans S3 x5
          cases b with
          | false =>
            rw [if_neg Bool.false_ne_true]
            exact ⟨acc, m3, g5, hob, S5, E5, hD5, ha5, hm5, hf5, eg⟩
          | true =>
            rw [if_pos rfl]
            have eg : R.bind ((fe ρ' m3).bind txtS) (fun o m => lcAdd addS (lcGo (turnS ft fe tg (wipeE ρ own)) addS (ds.drop (i + 1))) acc o m) = .ok r m' := eg
            refine ⟨ρ', m3, g5, S5, E'.keep S3 x5.1, ?_⟩
            cases efe : fe ρ' m3 with
            | bad => rw [efe] at eg; cases eg
            | exc c m4 => rw [efe] at eg; cases eg
            | ok y m4 =>
              rw [efe] at eg
              intro yv H6 g6 S6 x6 ry
              have ry : relW Y g6 H5 H6 y yv := ry
              have eg : R.bind (txtS y m4) (fun o m => lcAdd addS (lcGo (turnS ft fe tg (wipeE ρ own)) addS (ds.drop (i + 1))) acc o m) = .ok r m' := eg
              rcases txtS_or y m4 with ⟨k, ey, ep⟩ | ep
              · subst ey
                rw [ep] at eg
                have eg : lcAdd addS (lcGo (turnS ft fe tg (wipeE ρ own)) addS (ds.drop (i + 1))) acc (some k) m4 = .ok r m' := eg
                unfold lcAdd at eg
                dsimp only at eg
                obtain ⟨Sf, rfl, hS⟩ := ha5
                obtain ⟨rfl, hk⟩ := Rp.strI (show Rp Y.X.K Y.X.w H6 g6.fz (.str k) yv from ry.1)
                cases ead : addS k acc with
                | none => rw [ead] at eg; cases eg
                | some acc2 =>
                  rw [ead] at eg
                  unfold addS at ead
                  split at ead
                  · rename_i hlt
                    cases ead
                    have hD6 := x6.1.keep _ _ hD5 (.inl hm5)
                    have hm6 : D ∉ g6.mu := by rw [x6.2]; exact hm5
                    have hf6 : ¬ g6.fz D := nfz_of x6.1 hD5 hf5
                    refine ⟨Sum.inr k, Sf, acc.length, rfl, hD6, by show acc.length + 1 < 4096; omega, ?_⟩
                    have hn : (if Sf (Sum.inr k) = true then acc.length else acc.length + 1) = (if k ∈ acc then acc else acc ++ [k]).length := by
                      by_cases hm : k ∈ acc
                      · rw [if_pos ((hS k).mpr hm), if_pos hm]
                      · rw [if_neg (fun z => hm ((hS k).mp z)), if_neg hm, List.length_append, List.length_singleton]
                    rw [hn]
                    refine ⟨if k ∈ acc then acc else acc ++ [k], m4, g6, _, S6.over hD6 hm6 hf6 (fun _ _ z => nomatch z), (E5.trans S5 x6).over hD, upd_same, ⟨_, rfl, fun j => ?_⟩, hm6, hf6, eg⟩
                    rw [Bool.or_eq_true, decide_eq_true_eq, hS j]
                    by_cases hm : k ∈ acc
                    · rw [if_pos hm]
                      exact ⟨fun z => z.elim id fun e => by rw [Sum.inr.inj e]; exact hm, .inl⟩
                    · rw [if_neg hm, List.mem_append, List.mem_singleton]
                      exact ⟨fun z => z.imp id Sum.inr.inj, fun z => z.imp id (congrArg Sum.inr)⟩
                  · cases ead
              · rw [ep] at eg; cases eg
    · obtain ⟨acc, m2, g2, hob, S2, E2, hD2, ⟨Sf, rfl, hS⟩, hm2, hf2, eg⟩ := c
      rw [List.drop_length] at eg
      have eg : R.ok acc m2 = R.ok r m' := eg
      cases eg
      have hu : ∀ n, lockOf m1 wv = some n → n < g1.mu.length ∧ ∀ a, g1.mu[n]? = some a → ¬ g1.lk a := fun n e => by
        obtain ⟨xs, ex⟩ := hlk n e
        exact ⟨by rw [s1.len]; exact (List.getElem?_eq_some_iff.mp ex).1, fun a ha => s1.free ha ex fun _ z => nomatch z⟩
      have hmu : g2.mu = g1.mu := by rw [E2.2]; exact Gm.lock_mu
      have x2 : Ext0 g1 H1 (g2.relk g1.lk) H2 := ⟨E2.1.unlock, hmu⟩
      exact ⟨D, Sf, _, rfl, hD2, h.intD (S2.unlock E2.1 hu) (x1.trans s1 x2)⟩
theorem snd_scl {p : Bool} {elt tg iter : Expr} {ifs : List Expr} {scope : Scope} {own : List (Str × Nat)} {q pos pos2 : Pos} {fi : En → Mem → R W} {ft : En → Mem → R Bool} {fe : En → Mem → R W} {t : Tg} (C : Y.X.calm = true) (hN : Y.X.N.Nodup) (hgl : Gl Y.X "len") (hm : Y.X.mg "len" = none) (hi : PI Y.X tg iter (rdI Y p fi)) (ok : BlkOk Y.X.N Y.X.env.scope scope own)
    (hg : InBlk Y scope fun Y => PG Y.X tg (gX Y p t)) (ht : InBlk Y scope fun Y => PTs Y.X ifs (rdT Y ft)) (he : InBlk Y scope fun Y => PE Y.X elt (rdE Y fe)) (ho : ∀ i ∈ tgSlots t, i ∈ own.map (·.2)) (hs : ∀ x, foldedSetIterable iter Y.X.env x = pure x) :
    PE Y.X (.Call (.Name "len" q) [.SetComp elt [⟨tg, iter, ifs, 0⟩] scope pos] [] pos2) (rdE Y (sclF fi ft fe (own.map (·.2)) t)) := by
  have hp := pe_scK (g := gX Y.nox p t) (tt := rdT Y.nox ft) (te := rdE Y.nox fe) (pos := pos) C hN hi ok hg ht he hs
  have := pe_callB (p := q) (pos := pos2) call_lenK hgl hm (bn_boot .len) (pa_cons hp pa_nil rfl) (bn_name .len) (bn_debug .len) rfl rfl
  exact this.imp fun σ H Q h => by
    have r := rd_scl (p := p) ho h
    exact r
end Lo
/-! Statements. -/
namespace Lo
open PySem PySem.Spec PyProof.Rows L2
variable {Y : Cy}
/-- what is wanted at a block's end -/
def endW (Y : Cy) (D : Ends) (g : Gm) (H H' : Hp) (σ : L2.St) : Fl → Prop
  | .nx => D.nx σ H'
  | .brk => D.bk σ H'
  | .cnt => D.ct σ H'
  | .ret w => ∀ v, Rw Y.X.K Y.X.w Y.sx g H' w v → Fresh H w v → D.rt v H'
def PstS (Y : Cy) (g : Gm) (H : Hp) (r : RS) (D : Ends) : Prop := match r with
  | .ok f ρ m => ∀ σ' H' g', Sr Y.X.K Y.X.w g' H' m → Ext g H g' H' → Er Y.X.K Y.X.w Y.sx g' H' ρ σ' → endW Y D g' H H' σ' f
  | .exc c ρ m => ∀ (_ : Unit) σ' H' g', Sr Y.X.K Y.X.w g' H' m → Ext g H g' H' → Er Y.X.K Y.X.w Y.sx g' H' ρ σ' → Y.Wx (Y.cx c) none σ' H'
  | .bad => False
def rdS (Y : Cy) (f : En → Mem → RS) : TS := fun D σ H => ∃ ρ m g, Sr Y.X.K Y.X.w g H m ∧ Er Y.X.K Y.X.w Y.sx g H ρ σ ∧ PstS Y g H (f ρ m) D
section
variable {g g0 g1 : Gm} {H H0 H1 : Hp} {m m1 : Mem} {ρ : En} {σ : L2.St} {D : Ends}
/-- seen from a later state -/
theorem PstS.from {r : RS} (s1 : Sr Y.X.K Y.X.w g1 H1 m1) (e : Ext g0 H0 g1 H1) (h : PstS Y g0 H0 r D) : PstS Y g1 H1 r D := by
  cases r with
  | bad => exact h
  | exc c ρ m => exact fun d σ' H' g' s x E => h d σ' H' g' s (e.trans s1 x) E
  | ok f ρ m =>
    intro σ' H' g' s x E
    have q := h σ' H' g' s (e.trans s1 x) E
    cases f with
    | ret w => exact fun v r f => q v r (f.back s1 e)
    | _ => exact q
theorem PstS.nx {ρ' : En} (h : PstS Y g0 H0 (.ok .nx ρ' m1) D) (s1 : Sr Y.X.K Y.X.w g1 H1 m1) (e : Ext g0 H0 g1 H1) (E : Er Y.X.K Y.X.w Y.sx g1 H1 ρ' σ) : D.nx σ H1 := h σ H1 g1 s1 e E
/-- an expression first -/
theorem rd_exp {f : En → Mem → R W} {k : W → Mem → RS} {Q' : VK} (s : Sr Y.X.K Y.X.w g H m) (E : Er Y.X.K Y.X.w Y.sx g H ρ σ) (x0 : Ext g0 H0 g H) (h : PstS Y g0 H0 ((f ρ m).then ρ k) D)
    (c : ∀ a m1 b H1 g1, Sr Y.X.K Y.X.w g1 H1 m1 → Ext0 g H g1 H1 → relW Y g1 H H1 a b → Er Y.X.K Y.X.w Y.sx g1 H1 ρ σ → PstS Y g0 H0 (k a m1) D → Q' b H1) : rdE Y f σ H Q' := by
  refine ⟨ρ, m, g, s, E, ?_⟩
  cases q : f ρ m with
  | ok a m1 =>
    rw [q] at h
    exact fun b H1 g1 s1 e1 r => c a m1 b H1 g1 s1 e1 r (E.keep s e1.1) h
  | exc n m1 =>
    rw [q] at h
    exact fun d H1 g1 s1 e1 => h d σ H1 g1 s1 (x0.trans s e1.1) (E.keep s e1.1)
  | bad => rw [q] at h; exact h
theorem rd_test {f : En → Mem → R Bool} {k : Bool → Mem → RS} {Q' : Bool → Hp → Prop} (s : Sr Y.X.K Y.X.w g H m) (E : Er Y.X.K Y.X.w Y.sx g H ρ σ) (x0 : Ext g0 H0 g H) (h : PstS Y g0 H0 ((f ρ m).then ρ k) D)
    (c : ∀ a m1 H1 g1, Sr Y.X.K Y.X.w g1 H1 m1 → Ext0 g H g1 H1 → Er Y.X.K Y.X.w Y.sx g1 H1 ρ σ → PstS Y g0 H0 (k a m1) D → Q' a H1) : rdT Y f σ H Q' := by
  refine ⟨ρ, m, g, s, E, ?_⟩
  cases q : f ρ m with
  | ok a m1 =>
    rw [q] at h
    intro b H1 g1 s1 e1 r
    cases r
    exact c a m1 H1 g1 s1 e1 (E.keep s e1.1) h
  | exc n m1 =>
    rw [q] at h
    exact fun d H1 g1 s1 e1 => h d σ H1 g1 s1 (x0.trans s e1.1) (E.keep s e1.1)
  | bad => rw [q] at h; exact h
theorem Gm.ice_rw {g : Gm} {H0 : Hp} {x : W} {v : V} {w : World} {K : PySem.W.Frag} {sx : Option (Addr × Nat)} (r : Rv K w sx g H x v) : Rv K w sx (g.ice H0 H) H x v := ice_rv r
/-- a fresh list becomes a cell -/
theorem Sr.cellL {K : PySem.W.Frag} {w : World} {a : Addr} {o : MO} (s : Sr K w g H m) (ha : a ∉ g.mu) (hf : ¬ g.fz a) (hc : Cr K w H g.fz a o) (ho : ∀ xs, o ≠ .lk xs) : Sr K w ⟨g.mu ++ [a], g.fz, g.lk⟩ H (m ++ [o]) where
  len := by rw [List.length_append, List.length_append, s.len]; rfl
  nd := List.nodup_append.mpr ⟨s.nd, List.nodup_cons.mpr ⟨by simp, List.nodup_nil⟩, fun b hb c hc e => ha (by rw [← List.mem_singleton.mp hc, ← e]; exact hb)⟩
  dis := fun b hb hm => (List.mem_append.mp hm).elim (s.dis b hb) fun h => hf (List.mem_singleton.mp h ▸ hb)
  fzs := s.fzs
  cell := fun n b u h1 h2 => by
    by_cases hn : n < m.length
    · rw [List.getElem?_append_left (by rw [s.len]; exact hn)] at h1
      rw [List.getElem?_append_left hn] at h2
      exact s.cell n b u h1 h2
    · have hn2 : n < (m ++ [o]).length := (List.getElem?_eq_some_iff.mp h2).1
      rw [List.length_append, List.length_singleton] at hn2
      have en : n = m.length := by omega
      subst en
      have h1 : (g.mu ++ [a])[m.length]? = some b := h1
      rw [List.getElem?_append_right (by omega), Nat.sub_self] at h2
      rw [List.getElem?_append_right (by rw [s.len]; exact Nat.le_refl _), s.len, Nat.sub_self] at h1
      cases h1
      cases h2
      exact hc
  lkd := fun n b u h1 h2 => by
    by_cases hn : n < m.length
    · rw [List.getElem?_append_left (by rw [s.len]; exact hn)] at h1
      rw [List.getElem?_append_left hn] at h2
      exact s.lkd n b u h1 h2
    · have hn2 : n < (m ++ [o]).length := (List.getElem?_eq_some_iff.mp h2).1
      rw [List.length_append, List.length_singleton] at hn2
      have en : n = m.length := by omega
      subst en
      have h1 : (g.mu ++ [a])[m.length]? = some b := h1
      rw [List.getElem?_append_right (by omega), Nat.sub_self] at h2
      rw [List.getElem?_append_right (by rw [s.len]; exact Nat.le_refl _), s.len, Nat.sub_self] at h1
      cases h1
      cases h2
      exact ⟨fun h => absurd (s.lkm _ h) ha, fun ⟨xs, e⟩ => absurd e (ho xs)⟩
  lkm := fun b h => List.mem_append_left _ (s.lkm b h)
theorem Ext.cellL {a : Addr} (x : Ext g0 H0 g H) (ha : H0 a = none) : Ext g0 H0 ⟨g.mu ++ [a], g.fz, g.lk⟩ H := by
  obtain ⟨more, e, n⟩ := x.mu
  refine ⟨⟨more ++ [a], by rw [← List.append_assoc, ← e], fun b hb => ?_⟩, x.fz, x.nfz, x.keep, x.lk⟩
  rcases List.mem_append.mp hb with h | h
  · exact n b h
  · rw [List.mem_singleton.mp h]; exact ha
theorem Er.mu {a : Addr} (E : Er Y.X.K Y.X.w Y.sx g H ρ σ) : Er Y.X.K Y.X.w Y.sx ⟨g.mu ++ [a], g.fz, g.lk⟩ H ρ σ := by
  refine ⟨E.len, fun i x q => ?_⟩
  obtain ⟨v, h1, h2⟩ := E.val i x q
  refine ⟨v, h1, ?_⟩
  cases x with
  | ref n =>
    obtain ⟨b, h3, h4⟩ := h2
    exact ⟨b, by show (g.mu ++ [a])[n]? = some b; rw [List.getElem?_append_left (List.getElem?_eq_some_iff.mp h3).1]; exact h3, h4⟩
  | _ => exact h2
theorem Ext.ice (x : Ext g0 H0 g1 H1) (h : ∀ a, H a = none → H0 a = none) : Ext g0 H0 (g1.ice H H1) H1 := ⟨x.mu, fun a f => .inl (x.fz a f), fun a f => f.elim (x.nfz a) fun q => .inr (h a q.2.1), x.keep, x.lk⟩
theorem Er.ice (E : Er Y.X.K Y.X.w Y.sx g1 H1 ρ σ) : Er Y.X.K Y.X.w Y.sx (g1.ice H H1) H1 ρ σ := by
  refine ⟨E.len, fun i x q => ?_⟩
  obtain ⟨v, h1, h2⟩ := E.val i x q
  exact ⟨v, h1, ice_rv h2⟩
/-- name = value -/
theorem store_ok' {i : Nat} {cell : Bool} {x : W} {v : V} (s : Sr Y.X.K Y.X.w g H m) (E0 : Ext g0 H0 g H) (s1 : Sr Y.X.K Y.X.w g1 H1 m1) (x1 : Ext0 g H g1 H1) (r : relW Y g1 H H1 x v) (E : Er Y.X.K Y.X.w Y.sx g1 H1 ρ σ) (h : PstS Y g0 H0 (store i cell x ρ m1) D) : D.nx (σ.set i (some v)) H1 := by
  have x01 := E0.trans s x1.1
  have hn : ∀ a, H a = none → H0 a = none := fun a q => E0.none_of s q
  have plain : Rv Y.X.K Y.X.w Y.sx g1 H1 x v → PstS Y g0 H0 (.ok .nx (ρ.set i (some x)) m1) D → D.nx (σ.set i (some v)) H1 := fun rv h => h.nx s1 x01 (E.set i rv)
  cases x with
  | new xs =>
    obtain ⟨a, vs, rfl, hv, hz, rr, hf, hm⟩ := r.1
    have ha : H a = none := r.2 a rfl
    cases cell with
    | true =>
      have h : PstS Y g0 H0 (.ok .nx (ρ.set i (some (.ref m1.length))) (m1 ++ [.lst xs])) D := h
      refine h.nx (s1.cellL hm hf (o := .lst xs) ⟨vs, hv, hz, rr⟩ fun _ z => nomatch z) (x01.cellL (hn a ha)) (E.mu.set i (x := .ref m1.length) ⟨a, ?_, rfl⟩)
      show (g1.mu ++ [a])[m1.length]? = some a
      rw [← s1.len, List.getElem?_append_right (Nat.le_refl _), Nat.sub_self]
      rfl
    | false =>
      have h : PstS Y g0 H0 (.ok .nx (ρ.set i (some (.d (.list xs)))) m1) D := h
      refine h.nx (ice_sr (H0 := H) s1) (x01.ice hn) (E.ice.set i (x := .d (.list xs)) ?_)
      exact ice_laid (d := .list xs) r.1 r.2 rfl
  | newd xs =>
    obtain ⟨a, vs, rfl, hv, hz, rr, hf, hm⟩ := r.1
    have ha : H a = none := r.2 a rfl
    cases cell with
    | true =>
      have h : PstS Y g0 H0 (.ok .nx (ρ.set i (some (.ref m1.length))) (m1 ++ [.dic xs])) D := h
      refine h.nx (s1.cellL hm hf (o := .dic xs) ⟨vs, hv, hz, rr⟩ fun _ z => nomatch z) (x01.cellL (hn a ha)) (E.mu.set i (x := .ref m1.length) ⟨a, ?_, rfl⟩)
      show (g1.mu ++ [a])[m1.length]? = some a
      rw [← s1.len, List.getElem?_append_right (Nat.le_refl _), Nat.sub_self]
      rfl
    | false =>
      have h : PstS Y g0 H0 (.ok .nx (ρ.set i (some (.d (.dict xs)))) m1) D := h
      refine h.nx (ice_sr (H0 := H) s1) (x01.ice hn) (E.ice.set i (x := .d (.dict xs)) ?_)
      exact ice_laid (d := .dict xs) r.1 r.2 rfl
  | it xs => exact h.elim
  | d x => exact plain r.1 h
  | ref n => exact plain r.1 h
  | ro n => exact plain r.1 h
  | rod n => exact plain r.1 h
  | exc n => exact plain r.1 h
end
/-! ### the small ones -/
section
variable {e : Expr} {pos : Pos} {fe : En → Mem → R W}
theorem sns_pass : PS Y.X (.Pass pos) (rdS Y fun ρ m => .ok .nx ρ m) := ps_pass.imp fun D σ H ⟨ρ, m, g, S, E, h⟩ => h.nx S Ext.refl E
theorem sns_ret (he : PE Y.X e (rdE Y fe)) : PS Y.X (.Return (some e) pos) (rdS Y fun ρ m => (fe ρ m).then ρ fun w m => .ok (.ret w) ρ m) :=
  (ps_ret he).imp fun D σ H ⟨ρ, m, g, S, E, h⟩ => rd_exp S E Ext.refl h fun a m1 b H1 g1 s1 e1 r E1 h1 => h1 σ H1 g1 s1 e1.1 E1 b r.1 r.2
theorem sns_retN : PS Y.X (.Return none pos) (rdS Y fun ρ m => .ok (.ret (.d .none)) ρ m) :=
  ps_retN.imp fun D σ H ⟨ρ, m, g, S, E, h⟩ => h σ H g S Ext.refl E .non Rp.non trivial
theorem sns_ex (he : PE Y.X e (rdE Y fe)) (hs : swapsWith e none pos.line Y.X.env = pure false) : PS Y.X (.Expr e pos) (rdS Y fun ρ m => (fe ρ m).then ρ fun _ m => .ok .nx ρ m) :=
  (ps_expr he hs).imp fun D σ H ⟨ρ, m, g, S, E, h⟩ => rd_exp S E Ext.refl h fun a m1 b H1 g1 s1 e1 r E1 h1 => h1.nx s1 e1.1 E1
theorem sns_set {i : Nat} {x : Str} {pos' : Pos} {cell : Bool} (hN : Y.X.N.Nodup) (hi : Y.X.N[i]? = some x) (hx : Loc Y.X.env.scope x) (hf : Y.X.fn x = true ∨ Y.X.env.scope.names.lookup x = some .local) (he : PE Y.X e (rdE Y fe)) (hs : swapsWith e (some (.Name x pos')) pos.line Y.X.env = pure false) :
    PS Y.X (.Assign [.Name x pos'] e pos) (rdS Y fun ρ m => (fe ρ m).then ρ fun w m => store i cell w ρ m) :=
  (ps_set hN hi hx he hs hf).imp fun D σ H ⟨ρ, m, g, S, E, h⟩ => rd_exp S E Ext.refl h fun a m1 b H1 g1 s1 e1 r E1 h1 => store_ok' S Ext.refl s1 e1 r E1 h1
/-- .. where it is read off tAsg -/
theorem rd_setA {i : Nat} {cell : Bool} {D : Ends} {σ : L2.St} {H : Hp} (h : rdS Y (fun ρ m => (fe ρ m).then ρ fun w m => store i cell w ρ m) D σ H) : tAsg (rdE Y fe) (gName i) D σ H := by
  obtain ⟨ρ, m, g, S, E, h⟩ := h
  exact rd_exp S E Ext.refl h fun a m1 b H1 g1 s1 e1 r E1 h1 => store_ok' S Ext.refl s1 e1 r E1 h1
theorem sns_unp {tg : Tg} {a : Expr} (he : PE Y.X e (rdE Y fe)) (hg : PG Y.X a (gD Y tg)) (na : noStar a = true) (hs : swapsWithSole [a] e pos.line Y.X.env = pure false) (hw : swappedStores [a] e Y.X.env = pure none) :
    PS Y.X (.Assign [a] e pos) (rdS Y fun ρ m => (fe ρ m).then ρ fun w m => match laid w with
      | some x => match tgSet tg x ρ with
        | some ρ => .ok .nx ρ m
        | none => .bad
      | none => .bad) :=
  (ps_asg he hg hs hw (asg_map na)).imp fun D σ H ⟨ρ, m, g, S, E, h⟩ => rd_exp S E Ext.refl h fun x m1 v H1 g1 s1 e1 r E1 h1 => by
    cases el : laid x with
    | none => rw [el] at h1; exact h1.elim
    | some d =>
      rw [el] at h1
      dsimp only at h1
      cases et : tgSet tg d ρ with
      | none => rw [et] at h1; exact h1.elim
      | some ρ' =>
        rw [et] at h1
        exact ⟨ρ, g1.ice H H1, m1, d, ρ', ice_sr s1, E1.ice, ice_laid r.1 r.2 el, et, fun σ' E' _ => h1.nx (ice_sr s1) (e1.1.ice fun _ z => z) E'⟩
theorem sns_nil : PSs Y.X [] (rdS Y fun ρ m => .ok .nx ρ m) := pss_nil.imp fun D σ H ⟨ρ, m, g, S, E, h⟩ => h.nx S Ext.refl E
theorem sns_cons {st : Stmt} {sts : List Stmt} {f k : En → Mem → RS} (h1 : PS Y.X st (rdS Y f)) (h2 : PSs Y.X sts (rdS Y k)) : PSs Y.X (st :: sts) (rdS Y fun ρ m => (f ρ m).next k) :=
  (pss_cons h1 h2).imp fun D σ H ⟨ρ, m, g, S, E, h⟩ => by
    refine ⟨ρ, m, g, S, E, ?_⟩
    dsimp only at h
    cases q : f ρ m with
    | bad => rw [q] at h; exact h.elim
    | exc c ρ1 m1 => rw [q] at h; exact h
    | ok fl ρ1 m1 =>
      rw [q] at h
      cases fl with
      | nx => exact fun σ1 H1 g1 s1 x1 E1 => ⟨ρ1, m1, g1, s1, E1, PstS.from s1 x1 h⟩
      | ret w => exact h
      | brk => exact h
      | cnt => exact h
theorem then_asT {fc : En → Mem → R W} {ρ : En} {m : Mem} {k : Bool → Mem → RS} : ((asT fc) ρ m).then ρ k = (fc ρ m).then ρ fun w m => match truth m w with
    | some b => k b m
    | none => .bad := by
  unfold asT
  cases fc ρ m with
  | ok w m1 =>
    show (R.of m1 (truth m1 w)).then ρ k = match truth m1 w with
      | some b => k b m1
      | none => .bad
    cases truth m1 w <;> rfl
  | exc c m1 => rfl
  | bad => rfl
theorem sns_if {c : Expr} {a b : List Stmt} {fc : En → Mem → R W} {fa fb : En → Mem → RS} (hc : PT Y.X c (rdT Y (asT fc))) (ha : PSs Y.X a (rdS Y fa)) (hb : PSs Y.X b (rdS Y fb)) :
    PS Y.X (.If c a b pos) (rdS Y fun ρ m => (fc ρ m).then ρ fun w m => match truth m w with
      | some true => fa ρ m
      | some false => fb ρ m
      | none => .bad) :=
  (ps_if hc ha hb).imp fun D σ H ⟨ρ, m, g, S, E, h⟩ => by
    have e : ((fc ρ m).then ρ fun w m => match truth m w with
      | some true => fa ρ m
      | some false => fb ρ m
      | none => .bad) = ((asT fc) ρ m).then ρ fun b m => if b then fa ρ m else fb ρ m := by
      rw [then_asT]
      congr 1
      funext w m
      cases truth m w with
      | none => rfl
      | some b => cases b <;> rfl
    dsimp only at h
    rw [e] at h
    exact rd_test S E Ext.refl h fun t m1 H1 g1 s1 e1 E1 h1 => by
      cases t with
      | true => exact iteT ⟨ρ, m1, g1, s1, E1, PstS.from s1 e1.1 h1⟩
      | false => exact iteF ⟨ρ, m1, g1, s1, E1, PstS.from s1 e1.1 h1⟩
end
end Lo
/-! Statements: starred targets, stores, loops, errors. -/
namespace Lo
open PySem PySem.Spec PyProof.Rows L2
variable {Y : Cy}
/-! ### a, *r = e -/
theorem RpA.split {K : PySem.W.Frag} {w : World} {H : Hp} {fz : Addr → Prop} : ∀ {as bs : List PyData} {vs : List V}, RpA K w H fz (as ++ bs) vs → ∃ us ws, vs = us ++ ws ∧ RpA K w H fz as us ∧ RpA K w H fz bs ws
  | [], _, vs, h => ⟨[], vs, rfl, .nil, h⟩
  | _ :: _, _, _, .cons r t => by
    obtain ⟨us, ws, e, h1, h2⟩ := RpA.split t
    subst e
    exact ⟨_ :: us, ws, rfl, .cons r h1, h2⟩
theorem last_split {K : PySem.W.Frag} {w : World} {H : Hp} {fz : Addr → Prop} {ds : List PyData} {y : PyData} {vs : List V} (r : RpA K w H fz ds vs) (h : ds.getLast? = some y) : ∃ us v, vs = us ++ [v] ∧ RpA K w H fz ds.dropLast us ∧ Rp K w H fz y v := by
  obtain ⟨ds0, e⟩ := List.getLast?_eq_some_iff.mp h
  subst e
  obtain ⟨us, ws, e, h1, h2⟩ := r.split
  subst e
  cases h2 with
  | cons h2 h3 =>
    cases h3
    exact ⟨us, _, rfl, by rw [List.dropLast_concat]; exact h1, h2⟩
section
variable {e : Expr} {pos p1 p2 p3 p4 : Pos} {fe : En → Mem → R W} {a r : Str} {i j k : Nat}
theorem sns_star1 (C : Y.X.calm = true) (hN : Y.X.N.Nodup) (hi : Y.X.N[i]? = some a) (hj : Y.X.N[j]? = some r) (ha : Loc Y.X.env.scope a) (hr : Loc Y.X.env.scope r) (hfa : Y.X.fn a = true ∨ Y.X.env.scope.names.lookup a = some .local) (hfr : Y.X.fn r = true ∨ Y.X.env.scope.names.lookup r = some .local)
    (he : PE Y.X e (rdE Y fe)) (hs : swapsWithSole [.Tuple [.Name a p1, .Starred (.Name r p2) p3] k p4] e pos.line Y.X.env = pure false) (hw : swappedStores [.Tuple [.Name a p1, .Starred (.Name r p2) p3] k p4] e Y.X.env = pure none) :
    PS Y.X (.Assign [.Tuple [.Name a p1, .Starred (.Name r p2) p3] k p4] e pos) (rdS Y fun ρ m => (fe ρ m).then ρ fun w m => match w with
      | .d (.tuple (x :: xs)) => .ok .nx ((ρ.set i (some (.d x))).set j (some (.d (.list xs)))) m
      | _ => .bad) :=
  (ps_asg he (pg_star1 (k := k) (p2 := p3) (pos := p4) C (pgs_cons (pg_name (pos := p1) hN hi ha hfa) (pgs_cons (pg_name (pos := p2) hN hj hr hfr) pgs_nil rfl) rfl) rfl rfl) hs hw rfl).imp fun D σ H ⟨ρ, m, g, S, E, h⟩ => rd_exp S E Ext.refl h fun x m1 v H1 g1 s1 e1 rx E1 h1 => by
    split at h1
    · rename_i y ys
      obtain ⟨b, vs, rfl, hv, hz, rr⟩ := Rp.tupI (show Rp Y.X.K Y.X.w H1 g1.fz (.tuple (y :: ys)) v from rx.1)
      cases rr with
      | cons r1 r2 =>
        rename_i vy vys
        refine ⟨b, vy, vys, rfl, hv.sq, fun l hl => ⟨vy, [.ref l], rfl, ⟨.ref l, [], rfl, rfl, ?_⟩⟩⟩
        have x2 := Ext0.new (g := g1) (o := .lst vys) hl
        have s2 := s1.new (o := .lst vys) hl
        have hz' : vys.length ≤ LINE := Nat.le_trans (Nat.le_succ _) hz
        have rl : Rw Y.X.K Y.X.w Y.sx g1 (upd H1 l (.lst vys)) (.new ys) (.ref l) := ⟨l, vys, rfl, upd_same, hz', r2.keep (x2.1.keeps s1), fun f => s1.fzs l f hl, fun q => s1.isS q hl⟩
        have fr : Fresh H1 (.new ys) (.ref l) := fun a ea => by cases ea; exact hl
        have E2 : Er Y.X.K Y.X.w Y.sx (g1.ice H1 (upd H1 l (.lst vys))) (upd H1 l (.lst vys)) ρ σ := (E1.keep s1 x2.1).ice
        refine h1.nx (ice_sr (H0 := H1) s2) ((e1.1.trans s1 x2.1).ice fun a q => e1.1.none_of s1 q) ((E2.set i (x := .d y) (ice_rv (x := .d y) (sx := Y.sx) (Rp.keep (x2.1.keeps s1) r1))).set j (x := .d (.list ys)) (ice_laid (d := .list ys) rl fr rfl))
    · exact h1.elim
theorem sns_star2 (C : Y.X.calm = true) (hN : Y.X.N.Nodup) (hi : Y.X.N[i]? = some a) (hj : Y.X.N[j]? = some r) (ha : Loc Y.X.env.scope a) (hr : Loc Y.X.env.scope r) (hfa : Y.X.fn a = true ∨ Y.X.env.scope.names.lookup a = some .local) (hfr : Y.X.fn r = true ∨ Y.X.env.scope.names.lookup r = some .local)
    (he : PE Y.X e (rdE Y fe)) (hs : swapsWithSole [.Tuple [.Starred (.Name r p2) p3, .Name a p1] k p4] e pos.line Y.X.env = pure false) (hw : swappedStores [.Tuple [.Starred (.Name r p2) p3, .Name a p1] k p4] e Y.X.env = pure none) :
    PS Y.X (.Assign [.Tuple [.Starred (.Name r p2) p3, .Name a p1] k p4] e pos) (rdS Y fun ρ m => (fe ρ m).then ρ fun w m => match w with
      | .d (.tuple xs) => match xs.getLast? with
        | some x => .ok .nx ((ρ.set j (some (.d (.list xs.dropLast)))).set i (some (.d x))) m
        | none => .bad
      | _ => .bad) :=
  (ps_asg he (pg_star2 (k := k) (p2 := p3) (pos := p4) C (pgs_cons (pg_name (pos := p2) hN hj hr hfr) (pgs_cons (pg_name (pos := p1) hN hi ha hfa) pgs_nil rfl) rfl) rfl rfl) hs hw rfl).imp fun D σ H ⟨ρ, m, g, S, E, h⟩ => rd_exp S E Ext.refl h fun x m1 v H1 g1 s1 e1 rx E1 h1 => by
    split at h1
    · rename_i ys
      obtain ⟨b, vs, rfl, hv, hz, rr⟩ := Rp.tupI (show Rp Y.X.K Y.X.w H1 g1.fz (.tuple ys) v from rx.1)
      cases el : ys.getLast? with
      | none => rw [el] at h1; exact h1.elim
      | some y =>
        rw [el] at h1
        obtain ⟨us, vy, rfl, rt, r1⟩ := last_split rr el
        refine ⟨b, vy, us, rfl, hv.sq, fun l hl => ⟨.ref l, [vy], rfl, ⟨vy, [], rfl, rfl, ?_⟩⟩⟩
        have x2 := Ext0.new (g := g1) (o := .lst us) hl
        have s2 := s1.new (o := .lst us) hl
        have hz' : us.length ≤ LINE := by rw [List.length_append] at hz; omega
        have rl : Rw Y.X.K Y.X.w Y.sx g1 (upd H1 l (.lst us)) (.new ys.dropLast) (.ref l) := ⟨l, us, rfl, upd_same, hz', rt.keep (x2.1.keeps s1), fun f => s1.fzs l f hl, fun q => s1.isS q hl⟩
        have fr : Fresh H1 (.new ys.dropLast) (.ref l) := fun a ea => by cases ea; exact hl
        have E2 : Er Y.X.K Y.X.w Y.sx (g1.ice H1 (upd H1 l (.lst us))) (upd H1 l (.lst us)) ρ σ := (E1.keep s1 x2.1).ice
        exact h1.nx (ice_sr (H0 := H1) s2) ((e1.1.trans s1 x2.1).ice fun a q => e1.1.none_of s1 q) ((E2.set j (x := .d (.list ys.dropLast)) (ice_laid (d := .list ys.dropLast) rl fr rfl)).set i (x := .d y) (ice_rv (x := .d y) (sx := Y.sx) (Rp.keep (x2.1.keeps s1) r1)))
    · exact h1.elim
end
end Lo
/-! Stores, loops. -/
namespace Lo
open PySem PySem.Spec PyProof.Rows L2
variable {Y : Cy}
/-! ### o[i] = e -/
def rPutY : TSet := fun o i v H Q => (rSetL o i v H Q) ∨ ∃ a ks k, o = .ref a ∧ i = .str k ∧ H a = some (.dK ks) ∧ ks.length < sizeLine ∧ Q (upd H a (.dK (putK ks (Sum.inr k) v)))
theorem put_ok (G : Gd Y) : PSet Y.X rPutY := by
  intro pins s σ H o i v ov iv u Q I ro ri rv h
  rcases h with h | ⟨a, ks, k, rfl, rfl, ha, hz, q⟩
  · exact set_list pins s σ H o i v ov iv u Q I ro ri rv h
  · have hu := G.un
    cases ro
    exact d_setItem (by omega) I (DPut.k (k := Sum.inr k) ha hz) ri rv fun s' I' => ⟨_, I', q⟩
theorem put_assign {o i : Expr} {pos : Pos} {env : Env} (hi : ∀ a b c p, i ≠ .Slice a b c p) (v : Value) : assign (.Subscript o i pos) env v = (do
    let ov ← holding [v] (eval o env)
    let iv ← holding [v, ov] (eval i env)
    standAt pos
    holding [v, ov, iv] (setItem ov iv v)
    release [v, ov, iv] []) := by
  cases i <;> first | rfl | (exact absurd rfl (hi _ _ _ _))
section
variable {o i e : Expr} {pos pos' : Pos} {fe fo fi : En → Mem → R W}
theorem sns_put (G : Gd Y) (he : PE Y.X e (rdE Y fe)) (ho : PE Y.X o (rdE Y fo)) (hi : PE Y.X i (rdE Y fi)) (hsl : ∀ a b c p, i ≠ .Slice a b c p) (hs : swapsWithSole [.Subscript o i pos'] e pos.line Y.X.env = pure false) (hw : swappedStores [.Subscript o i pos'] e Y.X.env = pure none) :
    PS Y.X (.Assign [.Subscript o i pos'] e pos) (rdS Y fun ρ m => (fe ρ m).then ρ fun w m => (fo ρ m).then ρ fun x m => (fi ρ m).then ρ fun y m => match putW x y w m with
      | some m => .ok .nx ρ m
      | none => .bad) :=
  (ps_asg he (pg_sub ho hi (put_ok G) (put_assign hsl)) hs hw rfl).imp fun D σ H ⟨ρ, m, g, S, E, h⟩ => rd_exp S E Ext.refl h fun x m1 v H1 g1 s1 e1 rx E1 h1 =>
    rd_exp s1 E1 e1.1 h1 fun y m2 ov H2 g2 s2 e2 ry E2 h2 => rd_exp s2 E2 (e1.1.trans s1 e2.1) h2 fun z m3 iv H3 g3 s3 e3 rz E3 h3 => by
      have x03 : Ext0 g H g3 H3 := (e1.trans s1 e2).trans s2 e3
      cases ep : putW y z x m3 with
      | none => rw [ep] at h3; exact h3.elim
      | some m4 =>
        rw [ep] at h3
        have rx3 : Rw Y.X.K Y.X.w Y.sx g3 H3 x v := (rx.1.keep s1 e2.1).keep s2 e3.1
        have ry3 : Rw Y.X.K Y.X.w Y.sx g3 H3 y ov := ry.1.keep s2 e3.1
        have S3 := ice_sr (H0 := H) s3
        have x3 := ice_ext (H := H3) x03
        unfold putW at ep
        split at ep <;> first | (cases ep; done) | skip
        · rename_i n j d el
          obtain ⟨a, ha, rfl⟩ := cell_ref s3 ry3
          obtain rfl := Rp.intI (show Rp Y.X.K Y.X.w H3 g3.fz (.int j) iv from rz.1)
          split at ep
          · rename_i xs em
            cases ej : ixN xs.length j with
            | none => rw [ej] at ep; cases ep
            | some jj =>
              rw [ej] at ep
              cases ep
              obtain ⟨vs, hv, hz, r⟩ := cell_lst s3 ha em
              have hf : ¬ g3.lk a := s3.free ha em fun _ z => nomatch z
              have rd := ice_laid (H0 := H) rx3 rx.2 el
              have k := put_keeps (h := .lst (vs.set jj v)) S3 ha
              refine .inl ⟨a, vs, j, jj, rfl, rfl, hv, by rw [← r.length]; exact ej, ?_⟩
              refine h3.nx (S3.put ha hf (fun _ z => nomatch z) ⟨vs.set jj v, upd_same, by rw [List.length_set]; exact hz, ((r.keep ice_keeps).set rd jj).keep k⟩) (Ext0.put x3 ha hf).1 ?_
              exact E3.ice.keep S3 (Ext0.put (g := g3.ice H H3) (g0 := g3.ice H H3) Ext0.refl ha hf).1
          · cases ep
        · rename_i n kk d el
          obtain ⟨a, ha, rfl⟩ := cell_ref s3 ry3
          obtain ⟨rfl, hk⟩ := Rp.strI (show Rp Y.X.K Y.X.w H3 g3.fz (.str kk) iv from rz.1)
          split at ep
          · rename_i kvs em
            split at ep
            · rename_i hc
              cases ep
              rw [Bool.and_eq_true, decide_eq_true_eq] at hc
              obtain ⟨ks, hv, hz, r⟩ := (show ∃ ks, H3 a = some (.dK ks) ∧ ks.length ≤ LINE ∧ RpK Y.X.K Y.X.w H3 g3.fz kvs ks from s3.cell n a _ ha em)
              have hf : ¬ g3.lk a := s3.free ha em fun _ z => nomatch z
              have rd := ice_laid (H0 := H) rx3 rx.2 el
              have k := put_keeps (h := .dK (putK ks (Sum.inr kk) v)) S3 ha
              have hl : ks.length < LINE := by rw [← r.length]; exact hc.2
              refine .inr ⟨a, ks, kk, rfl, rfl, hv, by rw [line_eq]; exact hl, ?_⟩
              have hp := putK_len ks (Sum.inr kk) v
              refine h3.nx (S3.put ha hf (fun _ z => nomatch z) ⟨putK ks (Sum.inr kk) v, upd_same, by omega, (RpK.store (r.keep ice_keeps) hk rd).keep k⟩) (Ext0.put x3 ha hf).1 ?_
              exact E3.ice.keep S3 (Ext0.put (g := g3.ice H H3) (g0 := g3.ice H H3) Ext0.refl ha hf).1
            · cases ep
          · cases ep
end
/-! ### for -/
section
variable {g g0 g1 : Gm} {H H0 H1 : Hp} {m m1 : Mem}
theorem rw_relk {K : PySem.W.Frag} {w : World} {sx : Option (Addr × Nat)} {l : Addr → Prop} {x : W} {v : V} : Rw K w sx g H x v → Rw K w sx (g.relk l) H x v := fun h => by cases x <;> exact h
/-- a result under a lock -/
theorem PstS.locked {k : Option Nat} {r : RS} {D : Ends} (s1 : Sr Y.X.K Y.X.w g1 H1 m1) (hk : ∀ n, k = some n → ∃ xs, m1[n]? = some (.lst xs)) (h : PstS Y g1 H1 (r.unlock k) D) : PstS Y (g1.lock k) H1 r D := by
  have hu : ∀ n, k = some n → n < g1.mu.length ∧ ∀ a, g1.mu[n]? = some a → ¬ g1.lk a := fun n e => by
    obtain ⟨xs, ex⟩ := hk n e
    exact ⟨by rw [s1.len]; exact (List.getElem?_eq_some_iff.mp ex).1, fun a ha => s1.free ha ex fun _ z => nomatch z⟩
  cases r with
  | bad => exact h
  | exc c ρ m => exact fun d σ' H' g' s x E => h d σ' H' (g'.relk g1.lk) (s.unlock x hu) x.unlock E.relk
  | ok f ρ m =>
    intro σ' H' g' s x E
    have q := h σ' H' (g'.relk g1.lk) (s.unlock x hu) x.unlock E.relk
    cases f with
    | ret w => exact fun v r fr => q v (rw_relk r) fr
    | _ => exact q
end
section
variable {tg iter : Expr} {body : List Stmt} {pos : Pos} {fi : En → Mem → R W} {fb : En → Mem → RS} {t : Tg}
theorem forGo_cons {ρ : En} {m : Mem} {d : PyData} {ds : List PyData} : forGo t fb (d :: ds) ρ m = match tgSet t d ρ with
    | none => .bad
    | some ρ => match fb ρ m with
      | .ok .nx ρ m => forGo t fb ds ρ m
      | .ok .cnt ρ m => forGo t fb ds ρ m
      | .ok .brk ρ m => .ok .nx ρ m
      | r => r := rfl
theorem sns_for {p : Bool} (hp : PassesOwn (model Y.X.prog Y.X.w) Y.X.A Y.X.env Y.X.xe) (C : Y.X.calm = true) (hi : PI Y.X tg iter (rdI Y p fi)) (hg : PG Y.X tg (gX Y p t)) (hb : PSs Y.X body (rdS Y fb)) (hs : ∀ x, foldedSetIterable iter Y.X.env x = pure x) :
    PS Y.X (.For tg iter body [] pos) (rdS Y fun ρ m => (fi ρ m).then ρ fun w m => match items m w with
      | some xs => (forGo t fb xs ρ (lockM m (lockOf m w))).unlock (lockOf m w)
      | none => .bad) :=
  (ps_for hp C hi hg hb hs).imp fun D σ H ⟨ρ, m, g, S, E, h⟩ => by
    refine ⟨ρ, m, g, S, E, ?_⟩
    dsimp only at h
    cases q : fi ρ m with
    | bad => rw [q] at h; exact h.elim
    | exc c m1 =>
      rw [q] at h
      exact fun d H1 g1 s1 x1 => h d σ H1 g1 s1 x1.1 (E.keep S x1.1)
    | ok wv m1 =>
      rw [q] at h
      have h : PstS Y g H (match items m1 wv with
        | some xs => (forGo t fb xs ρ (lockM m1 (lockOf m1 wv))).unlock (lockOf m1 wv)
        | none => .bad) D := h
      cases ei : items m1 wv with
      | none => rw [ei] at h; exact h.elim
      | some ds =>
        rw [ei] at h
        refine ⟨ds, ei, fun J H1 g1 s1 x1 wd => ?_⟩
        have hlk : ∀ n, lockOf m1 wv = some n → ∃ xs, m1[n]? = some (.lst xs) := fun n e => (lockOf_some e).2
        have sl := s1.lock hlk
        have hl : PstS Y (g1.lock (lockOf m1 wv)) H1 (forGo t fb ds ρ (lockM m1 (lockOf m1 wv))) D := PstS.locked s1 hlk (PstS.from s1 x1.1 h)
        revert sl hl wd
        generalize lockM m1 (lockOf m1 wv) = ml
        have El : Er Y.X.K Y.X.w Y.sx (g1.lock (lockOf m1 wv)) H1 ρ σ := (E.keep S x1.1).lock
        revert El
        generalize g1.lock (lockOf m1 wv) = gl
        intro El wd sl hl
        obtain ⟨G, Yv, wk, wd⟩ := wd.ex
        refine for_it wk (fun i σ H2 => ∃ ρ m2 g2, Sr Y.X.K Y.X.w g2 H2 m2 ∧ Ext gl H1 g2 H2 ∧ Er Y.X.K Y.X.w Y.sx g2 H2 ρ σ ∧ PstS Y gl H1 (forGo t fb (ds.drop i) ρ m2) D) ?_ (fun i σ H2 _ ⟨ρ2, m2, g2, S2, x2, E2, _⟩ => (wd g2 H2 x2).1) (fun i x σ2 H2 H3 hi ⟨ρ2, m2, g2, S2, x2, E2, h2⟩ hy => ?_) fun σ2 H2 ⟨ρ2, m2, g2, S2, x2, E2, h2⟩ => ?_
        · exact ⟨ρ, ml, gl, sl, Ext.refl, El, by rw [List.drop_zero]; exact hl⟩
        · obtain ⟨d, ed, hit⟩ := (wd g2 H2 x2).2 i x H3 hi hy
          have edr : ds.drop i = d :: ds.drop (i + 1) := by
            rw [List.drop_eq_getElem_cons hi]
            congr 1
            rw [List.getElem?_eq_getElem hi] at ed
            exact Option.some.inj ed
          rw [edr, forGo_cons] at h2
          cases et : tgSet t d ρ2 with
          | none => rw [et] at h2; exact h2.elim
          | some ρ3 =>
            rw [et] at h2
            dsimp only at h2
            have step : ∀ H3, Sr Y.X.K Y.X.w g2 H3 m2 → Ext gl H1 g2 H3 → Er Y.X.K Y.X.w Y.sx g2 H3 ρ2 σ2 → ItX Y.X.K Y.X.w p H3 g2.fz d x → gX Y p t x σ2 H3 fun σ3 H4 => rdS Y fb { D with nx := fun σ H2 => ∃ ρ m2 g2, Sr Y.X.K Y.X.w g2 H2 m2 ∧ Ext gl H1 g2 H2 ∧ Er Y.X.K Y.X.w Y.sx g2 H2 ρ σ ∧ PstS Y gl H1 (forGo t fb (ds.drop (i + 1)) ρ m2) D, ct := fun σ H2 => ∃ ρ m2 g2, Sr Y.X.K Y.X.w g2 H2 m2 ∧ Ext gl H1 g2 H2 ∧ Er Y.X.K Y.X.w Y.sx g2 H2 ρ σ ∧ PstS Y gl H1 (forGo t fb (ds.drop (i + 1)) ρ m2) D, bk := D.nx } σ3 H4 := fun H3 S3 x3 E3 ri => by
              refine gX_mk (m := m2) S3 E3 ri et fun σ3 E3' _ => ⟨ρ3, m2, g2, S3, E3', ?_⟩
              cases eb : fb ρ3 m2 with
              | bad => rw [eb] at h2; exact h2.elim
              | exc c ρ4 m4 =>
                rw [eb] at h2
                exact PstS.from S3 x3 h2
              | ok f ρ4 m4 =>
                rw [eb] at h2
                cases f with
                | nx => exact fun σ4 H4 g4 S4 x4 E4 => ⟨ρ4, m4, g4, S4, x3.trans S3 x4, E4, h2⟩
                | cnt => exact fun σ4 H4 g4 S4 x4 E4 => ⟨ρ4, m4, g4, S4, x3.trans S3 x4, E4, h2⟩
                | brk => exact fun σ4 H4 g4 S4 x4 E4 => h2 σ4 H4 g4 S4 (x3.trans S3 x4) E4
                | ret w => exact fun σ4 H4 g4 S4 x4 E4 v r f => h2 σ4 H4 g4 S4 (x3.trans S3 x4) E4 v r (f.back S3 x3)
            rcases hit with ⟨rfl, rp⟩ | ⟨hpt, T, a, b, da, db, e1, e2, hT, e3, ra, rb⟩
            · refine step _ S2 x2 E2 ?_
              cases p with
              | true => exact .inl rp
              | false => exact rp
            · subst e3
              have x0 := Ext0.new (g := g2) (o := .tup [a, b]) hT
              have k := x0.1.keeps S2
              refine step _ (S2.new hT) (x2.trans S2 x0.1) (E2.keep S2 x0.1) ?_
              subst hpt
              exact .inr ⟨T, da, db, a, b, e1, e2, upd_same, ra.keep k, rb.keep k⟩
        · rw [List.drop_length] at h2
          exact h2 σ2 H2 g2 S2 x2 E2
/-! ### while -/
theorem sns_while {c : Expr} {fc : En → Mem → R W} {n : Nat} (hp : PassesOwn (model Y.X.prog Y.X.w) Y.X.A Y.X.env Y.X.xe) (hc : PT Y.X c (rdT Y (asT fc))) (hb : PSs Y.X body (rdS Y fb)) :
    PS Y.X (.While c body [] pos) (rdS Y fun ρ m => whileGo (asT fc) fb n ρ m) :=
  (ps_while hp hc hb).imp fun D σ H ⟨ρ, m, g, S, E, h⟩ => by
    refine ⟨fun k σ H2 => ∃ ρ m2 g2, Sr Y.X.K Y.X.w g2 H2 m2 ∧ Ext g H g2 H2 ∧ Er Y.X.K Y.X.w Y.sx g2 H2 ρ σ ∧ PstS Y g H (whileGo (asT fc) fb k ρ m2) D, ⟨n, ρ, m, g, S, Ext.refl, E, h⟩, fun k σ2 H2 ⟨ρ2, m2, g2, S2, x2, E2, h2⟩ => ?_⟩
    cases k with
    | zero => exact h2.elim
    | succ k =>
      have h2 : PstS Y g H (((asT fc) ρ2 m2).then ρ2 fun b m => if b then match fb ρ2 m with
        | .ok .nx ρ m => whileGo (asT fc) fb k ρ m
        | .ok .cnt ρ m => whileGo (asT fc) fb k ρ m
        | .ok .brk ρ m => .ok .nx ρ m
        | r => r
        else .ok .nx ρ2 m) D := h2
      refine rd_test S2 E2 x2 h2 fun b m3 H3 g3 s3 e3 E3 h3 => ?_
      have x3 := x2.trans S2 e3.1
      cases b with
      | false =>
        rw [if_neg Bool.false_ne_true] at h3 ⊢
        exact h3.nx s3 x3 E3
      | true =>
        rw [if_pos rfl] at h3 ⊢
        refine ⟨fun σ H2 => ∃ ρ m2 g2, Sr Y.X.K Y.X.w g2 H2 m2 ∧ Ext g H g2 H2 ∧ Er Y.X.K Y.X.w Y.sx g2 H2 ρ σ ∧ PstS Y g H (whileGo (asT fc) fb k ρ m2) D, fun σ' H' q => ⟨k, Nat.lt_succ_self _, q⟩, ρ2, m3, g3, s3, E3, ?_⟩
        cases eb : fb ρ2 m3 with
        | bad => rw [eb] at h3; exact h3.elim
        | exc c ρ4 m4 => rw [eb] at h3; exact PstS.from s3 x3 h3
        | ok f ρ4 m4 =>
          rw [eb] at h3
          cases f with
          | nx => exact fun σ4 H4 g4 S4 x4 E4 => ⟨ρ4, m4, g4, S4, x3.trans s3 x4, E4, h3⟩
          | cnt => exact fun σ4 H4 g4 S4 x4 E4 => ⟨ρ4, m4, g4, S4, x3.trans s3 x4, E4, h3⟩
          | brk => exact fun σ4 H4 g4 S4 x4 E4 => h3 σ4 H4 g4 S4 (x3.trans s3 x4) E4
          | ret w => exact fun σ4 H4 g4 S4 x4 E4 v r f => h3 σ4 H4 g4 S4 (x3.trans s3 x4) E4 v r (f.back s3 x3)
end
end Lo
/-! raise, try. -/
namespace Lo
open PySem PySem.Spec PyProof.Rows L2
variable {Y : Cy}
/-- what the classes are to one another -/
structure ClsOk (K : PySem.W.Frag) (cx : Nat → Value) (sub : Nat → List Nat → Option Bool) : Prop where
  own : ∀ c ks b, sub c ks = some b → ∃ D, cx c = .ref D ∧ ExcC K D
  isc : ∀ c ks b, sub c ks = some b → ∀ k ∈ ks, IsC (cx k)
  any : ∀ c ks b, sub c ks = some b → PySem.W.kitAny K (cx c) (ks.map cx) = some b
  one : ∀ c k b, sub c [k] = some b → PySem.W.kitOne K (cx c) (cx k) = some b
  exm : ∀ c k b, sub c [k] = some b → PySem.W.exmOne K (cx c) (cx k) = some b
theorem rel_vOf {v u : Value} (h : IsC v) (r : RelV (vOf v) u) : u = v := by
  rcases h with ⟨a, rfl⟩ | ⟨n, rfl⟩
  · exact r
  · exact r
/-- within an except suite -/
def Cy.suite (Y : Cy) (a : Addr) (oe : Obj) (c : Nat) (pn : List (Addr × Obj)) : Cy := ⟨Y.X.suite a ((a, oe) :: pn), some (a, c), Y.cx, fun _ _ _ _ => False⟩
theorem xok_suite {sub : Nat → List Nat → Option Bool} (C : ClsOk Y.X.K Y.cx sub) {a : Addr} {oe : Obj} {c : Nat} {d : Option Addr} {pn : List (Addr × Obj)} (hz : Zc (Y.cx c) d oe) (hf : ∃ vs, oe.data = .fields vs) (hd : oe.dict = none) : XOk (Y.suite a oe c pn) sub := by
  refine ⟨fun a' c' e => ?_⟩
  have e : some (a, c) = some (a', c') := e
  cases e
  intro pins s σ H xs us Q I r ⟨ks, b, hs, hx, q⟩
  obtain ⟨D, eD, EC⟩ := C.own c ks b hs
  obtain ⟨hget, _⟩ := I.pin (a, oe) (List.mem_append.mpr (.inl List.mem_cons_self))
  obtain ⟨vs, hv⟩ := hf
  have J : PySem.W.InstAt s.heap a oe D none := by
    obtain ⟨oc, od, oda, osl⟩ := oe
    obtain ⟨h1, h2⟩ := hz
    dsimp only at h1 h2 hv hd
    rw [eD] at h1
    subst h1 hv hd
    exact ⟨hget, rfl, rfl, trivial⟩
  have Z := PySem.W.handS_kitx_exc EC.hg EC.hk EC.hs EC.hd EC.ha EC.hn EC.ht EC.hm (x := a) (ox := oe)
  rcases hx with ⟨k, rfl, rfl⟩ | ⟨tp, rfl, ht⟩
  · obtain ⟨u1, u2, rfl, r1, r2⟩ := vals2 r
    cases r1
    have e2 := rel_vOf (C.isc c [k] b hs k List.mem_cons_self) r2
    subst e2
    have h1 := C.one c k b hs
    rw [eD] at h1
    exact PySem.W.kia_one Z I.kIn J h1 (fun z => nomatch z) fun tk => ⟨.bl b, H, I.kept (t' := tk) fun _ _ z => z, rfl, q⟩
  · obtain ⟨u1, u2, rfl, r1, r2⟩ := vals2 r
    cases r1
    cases r2
    obtain ⟨_, its, rv, o, h1, h2, n, h3⟩ := I.hok tp _ ht
    have cv : ∀ {ks : List Nat} {its : List Value}, (∀ k ∈ ks, IsC (Y.cx k)) → Vals (ks.map fun k => vOf (Y.cx k)) its → its = ks.map Y.cx := fun {ks} => by
      induction ks with
      | nil => intro its _ r; cases r; rfl
      | cons k ks ih =>
        intro its h r
        cases r with
        | cons r1 r2 => rw [rel_vOf (h k List.mem_cons_self) r1, ih (fun j hj => h j (List.mem_cons_of_mem _ hj)) r2]; rfl
    have e3 := cv (C.isc c ks b hs) rv
    subst e3
    obtain ⟨oc, od, dt, sl⟩ := o
    simp only at h2 h3
    subst h2 h3
    have h4 := C.any c ks b hs
    rw [eD] at h4
    exact PySem.W.kia_tup Z I.kIn J h1 h4 (fun z => nomatch z) fun tk => ⟨.bl b, H, I.kept (t' := tk) fun _ _ z => z, rfl, q⟩
/-! ### raise C('..') -/
theorem sns_raise {e : Expr} {pos : Pos} {c : Nat} {C : Addr} (hc : Y.X.calm = true) (tk : Takes Y.X Y.Wx) (ec : Y.cx c = .ref C) (he : PMk Y.X e (fun _ H Q => Q (.ref C) none H)) : PS Y.X (.Raise (some e) none pos) (rdS Y fun ρ m => .exc c ρ m) :=
  (ps_raise hc tk he).imp fun D σ H ⟨ρ, m, g, S, E, h⟩ => by
    have q := h () σ H g S Ext.refl E
    rw [ec] at q
    exact q
/-! ### try: .. except C as x: .. -/
def Cy.tr (Y : Cy) (pn : List (Addr × Obj)) (xe : Value → Shared → Prop) (W : WX) : Cy := ⟨Y.X.tr pn xe, Y.sx, Y.cx, W⟩
def tryG (sub : Nat → List Nat → Option Bool) (k x : Nat) (fb fs : En → Mem → RS) : En → Mem → RS := fun ρ m => match fb ρ m with
    | .exc c ρ m => match sub c [k] with
      | some true => (fs (ρ.set x (some (.exc c))) m).quit x
      | some false => RS.exc c ρ m
      | none => .bad
    | r => r
theorem er_sx {K : PySem.W.Frag} {w : World} {g : Gm} {H : Hp} {ρ : En} {σ : L2.St} {a : Addr} {c : Nat} (E : Er K w none g H ρ σ) : Er K w (some (a, c)) g H ρ σ := by
  refine ⟨E.len, fun i x q => ?_⟩
  obtain ⟨v, h1, h2⟩ := E.val i x q
  refine ⟨v, h1, ?_⟩
  cases x with
  | exc c => obtain ⟨_, e, _⟩ := h2; cases e
  | _ => exact h2
theorem er_out {K : PySem.W.Frag} {w : World} {sx sx' : Option (Addr × Nat)} {g : Gm} {H : Hp} {ρ : En} {σ : L2.St} (E : Er K w sx g H ρ σ) : Er K w sx' g H (ρ.map unexc) σ := by
  refine ⟨by rw [List.length_map]; exact E.len, fun i x q => ?_⟩
  rw [List.getElem?_map] at q
  cases eo : ρ[i]? with
  | none => rw [eo] at q; cases q
  | some o =>
    rw [eo] at q
    have q : unexc o = some x := Option.some.inj q
    cases o with
    | none => cases q
    | some y =>
      obtain ⟨v, h1, h2⟩ := E.val i y eo
      cases y with
      | exc c => cases q
      | d _ => cases q; exact ⟨v, h1, h2⟩
      | ref _ => cases q; exact ⟨v, h1, h2⟩
      | new _ => cases q; exact ⟨v, h1, h2⟩
      | newd _ => cases q; exact ⟨v, h1, h2⟩
      | it _ => cases q; exact ⟨v, h1, h2⟩
      | ro _ => cases q; exact ⟨v, h1, h2⟩
      | rod _ => cases q; exact ⟨v, h1, h2⟩
def InTry (Y : Cy) (P : Cy → Prop) : Prop := ∀ (W : WX) (pn : List (Addr × Obj)) (xe : Value → Shared → Prop), Takes (Y.X.tr pn xe) W → PassesOwn (model Y.X.prog Y.X.w) Y.X.A Y.X.env xe → P (Y.tr pn xe W)
def InSuite (Y : Cy) (sub : Nat → List Nat → Option Bool) (P : Cy → Prop) : Prop := ∀ (a : Addr) (oe : Obj) (c : Nat) (pn : List (Addr × Obj)), XOk (Y.suite a oe c pn) sub → P (Y.suite a oe c pn)
theorem sns_try {sub : Nat → List Nat → Option Bool} {x n : Str} {k i : Nat} {body suite : List Stmt} {b₀ : Stmt} {np pos pos' : Pos} {fb fs : En → Mem → RS} (CO : ClsOk Y.X.K Y.cx sub) (hsx : Y.sx = none) (hs : Y.X.stack = Y.X.env :: Y.X.outer) (hf : Y.X.env.frame = some Y.X.env.locals) (hN : Y.X.N.Nodup) (hi : Y.X.N[i]? = some n) (hln : Y.X.env.kindOf n = some .local) (hc : Names Y.X x (Y.cx k)) (tk : Takes Y.X Y.Wx)
    (hb : InTry Y fun Y => PSs Y.X body (rdS Y fb)) (hsu : InSuite Y sub fun Y => PSs Y.X (b₀ :: suite) (rdS Y fs)) :
    PS Y.X (.Try body [.ExceptHandler (some (.Name x np)) (some n) (b₀ :: suite) pos'] [] [] pos) (rdS Y (tryG sub k i fb fs)) := by
  refine (ps_try_as (tb := fun W => rdS ⟨Y.X, Y.sx, Y.cx, W⟩ fb) (ts := fun a cls d D σ H => d = none ∧ ∃ c, cls = Y.cx c ∧ rdS ⟨Y.X, some (a, c), Y.cx, fun _ _ _ _ => False⟩ fs D σ H) (Wout := Y.Wx) hs hf hN hi hln hc tk (fun W pn xe t p => hb W pn xe t p) ?_).imp fun D σ H h => ?_
  · intro a oe cls d pn hz hfl
    refine ⟨fun pins s σ H D I ⟨hd, c, ec, q⟩ => ?_⟩
    subst hd ec
    exact (hsu a oe c pn (xok_suite CO hz hfl hz.2)).run pins s σ H D I q
  · obtain ⟨ρ, m, g, S, E, h⟩ := h
    refine ⟨ρ, m, g, S, E, ?_⟩
    unfold tryG at h
    cases q : fb ρ m with
    | bad => rw [q] at h; exact h
    | ok f ρ1 m1 => rw [q] at h; exact h
    | exc c ρ1 m1 =>
      rw [q] at h
      dsimp only at h
      intro _ σ1 H1 g1 s1 x1 E1
      cases es : sub c [k] with
      | none => rw [es] at h; exact h.elim
      | some b =>
        refine ⟨b, CO.exm c k b es, fun eb a ha => ?_, fun eb => ?_⟩
        · subst eb
          rw [es] at h
          dsimp only at h
          refine ⟨rfl, c, rfl, ρ1.set i (some (.exc c)), m1, g1, s1, ?_, ?_⟩
          · have E1 : Er Y.X.K Y.X.w Y.sx g1 H1 ρ1 σ1 := E1
            rw [hsx] at E1
            exact (er_sx E1).set i (x := .exc c) ⟨a, rfl, rfl⟩
          · cases q2 : fs (ρ1.set i (some (.exc c))) m1 with
            | bad => rw [q2] at h; exact h.elim
            | exc c2 ρ2 m2 => rw [q2] at h; exact h.elim
            | ok f ρ2 m2 =>
              rw [q2] at h
              intro σ2 H2 g2 s2 x2 E2
              have E2 : Er Y.X.K Y.X.w (some (a, c)) g2 H2 ρ2 σ2 := E2
              have E3 : Er Y.X.K Y.X.w Y.sx g2 H2 ((ρ2.map unexc).set i none) (σ2.set i none) := (er_out E2).unset i none
              have E4 : Er Y.X.K Y.X.w Y.sx g2 H2 (ρ2.map unexc) σ2 := er_out E2
              have x12 := x1.trans s1 x2
              cases f with
              | nx => exact h (σ2.set i none) H2 g2 s2 x12 E3
              | brk => exact h (σ2.set i none) H2 g2 s2 x12 E3
              | cnt => exact h (σ2.set i none) H2 g2 s2 x12 E3
              | ret w =>
                intro v r fr
                have go : (∀ c, w ≠ .exc c) → PstS Y g H (.ok (.ret w) (ρ2.map unexc) m2) D → D.rt v H2 := fun hne h => by
                  refine h σ2 H2 g2 s2 x12 E4 v ?_ (fr.back s1 x1)
                  cases w with
                  | exc c => exact absurd rfl (hne c)
                  | _ => exact r
                cases w with
                | exc c => exact h.elim
                | _ => exact go (fun _ z => nomatch z) h
        · subst eb
          rw [es] at h
          exact h () σ1 H1 g1 s1 x1 E1
end Lo
/-! A dict comprehension stored on one line; which assignments swap. -/
namespace L2
open PySem PySem.Spec PyProof.Rows
variable {X : Cx}
theorem ps_setDc {i : Nat} {y : Str} {py : Pos} {kx vx tg iter : Expr} {ifs : List Expr} {scope : Scope} {own : List (Str × Nat)} {pos spos : Pos} {wi : TI} {g : TG} {tt : TT} {tk tv : TE} (hc : X.calm = true) (hN : X.N.Nodup) (hy : X.N[i]? = some y) (hyl : X.env.scope.names.lookup y = some .local)
    (hsw : swapsWith (.DictComp kx vx [⟨tg, iter, ifs, 0⟩] scope pos) (some (.Name y py)) spos.line X.env = pure true) (hi : PI X tg iter wi) (ok : BlkOk X.N X.env.scope scope own)
    (hg : ∀ (s : Shared) (H : Hp) (C : Addr) (cl : List (Str × Addr)) (fp : List Addr), PG (X.blk s H scope (compEnvC scope cl C X.env) fp) tg g) (ht : ∀ (s : Shared) (H : Hp) (C : Addr) (cl : List (Str × Addr)) (fp : List Addr), PTs (X.blk s H scope (compEnvC scope cl C X.env) fp) ifs tt)
    (hk : ∀ (s : Shared) (H : Hp) (C : Addr) (cl : List (Str × Addr)) (fp : List Addr), PE (X.blk s H scope (compEnvC scope cl C X.env) fp) kx tk)
    (he : ∀ (s : Shared) (H : Hp) (C : Addr) (cl : List (Str × Addr)) (fp : List Addr), PE (X.blk s H scope (compEnvC scope cl C X.env) fp) vx tv) (hs : ∀ x, foldedSetIterable iter X.env x = pure x := by intro _; rfl) :
    PS X (.Assign [.Name y py] (.DictComp kx vx [⟨tg, iter, ifs, 0⟩] scope pos) spos) (tAsg (tDc wi g tt tk tv (own.map (·.2))) (gName i)) := by
  refine ⟨fun pins s σ H D I h => ?_⟩
  rw [exec_Assign_Name_used _ _ _ _ hsw]
  refine wpAny_bind (wpAny_standAt (wpAny_bind ?_))
  show wpAny _ X.A (do let _ ← comprehension (.DictComp kx vx [⟨tg, iter, ifs, 0⟩] scope pos) scope X.env (firstIterPos [⟨tg, iter, ifs, 0⟩] pos) newDict false (eval iter X.env) (some (assign (.Name y py) X.env))) _ _ s
  have h : tDc wi g tt tk tv (own.map (·.2)) σ H (fun x H1 => gName i x σ H1 D.nx) := h
  refine wpAny_bind (thn (dc_core (Qf := fun _ s' => SP X pins D .next s') hc hN I hi ok hg ht hk he hs h fun L C s' m H' I' q hn f => ?_) fun _ s' hq => wpAny_pure (wpAny_pure hq))
  show wpAny _ _ (assign (.Name y py) X.env (.ref L)) _ _ _
  refine wpAny_assign_Name (store_ok2 (v := V.ref L) I' hN hy (.inl hyl) rfl (fun s2 I2 ⟨a, sb, ha⟩ => ?_) (.inr hyl))
  obtain ⟨f0, f1, f2, f3, f4, f5⟩ := f
  have haC : C ≠ a := by
    rcases ha with z | z
    · rw [z]; exact f1
    · exact fun e => f4 y a z e.symm
  refine ⟨m, hn.sameBut sb haC, fun h3 sb3 => ?_⟩
  exact ⟨_, H', I2.turned (t' := s2.toks) (fun b o hb e => (sb3.2 b hb).trans e) f0 f1 f3 f4 f5, q⟩
end L2
namespace Lo
open PySem PySem.Spec PyProof.Rows L2
variable {Y : Cy}
theorem sns_dc {p : Bool} {i : Nat} {y : Str} {py spos : Pos} {kx elt tg iter : Expr} {ifs : List Expr} {scope : Scope} {own : List (Str × Nat)} {pos : Pos} {fi : En → Mem → R W} {ft : En → Mem → R Bool} {fk fe : En → Mem → R W} {t : Tg} (C : Y.X.calm = true) (hN : Y.X.N.Nodup) (hy : Y.X.N[i]? = some y) (hyl : Y.X.env.scope.names.lookup y = some .local)
    (hsw : swapsWith (.DictComp kx elt [⟨tg, iter, ifs, 0⟩] scope pos) (some (.Name y py)) spos.line Y.X.env = pure true) (hi : PI Y.X tg iter (rdI Y p fi)) (ok : BlkOk Y.X.N Y.X.env.scope scope own)
    (hg : InBlk Y scope fun Y => PG Y.X tg (gX Y p t)) (ht : InBlk Y scope fun Y => PTs Y.X ifs (rdT Y ft)) (hk : InBlk Y scope fun Y => PE Y.X kx (rdE Y fk)) (he : InBlk Y scope fun Y => PE Y.X elt (rdE Y fe)) (ho : ∀ i ∈ tgSlots t, i ∈ own.map (·.2)) (hs : ∀ x, foldedSetIterable iter Y.X.env x = pure x) :
    PS Y.X (.Assign [.Name y py] (.DictComp kx elt [⟨tg, iter, ifs, 0⟩] scope pos) spos) (tAsg (rdE Y (dcF fi ft fk fe (own.map (·.2)) t)) (gName i)) :=
  (ps_setDc (g := gX Y.nox p t) (tt := rdT Y.nox ft) (tk := rdE Y.nox fk) (tv := rdE Y.nox fe) C hN hy hyl hsw hi ok hg ht hk he hs).imp fun D σ H h => rd_dc ho h
/-- the scope of a comprehension -/
def compSc : Expr → Option Scope
  | .ListComp _ _ s _ => some s
  | .SetComp _ _ s _ => some s
  | .DictComp _ _ _ s _ => some s
  | _ => none
/-- is it stored as it is made? -/
def swB (value : Expr) (y : Str) (py : Pos) (sc : Scope) : Bool := match compSc value with
  | none => false
  | some scope => sc.names.lookup y == some .local && py.line == value.pos.line && !(scope.names.any fun (n, k) => n == y && (k == .local || k == .cell))
theorem swB_none {value : Expr} (h : compSc value = none) (t : Option Expr) (l : Nat) (env : Env) : swapsWith value t l env = pure false := by
  cases value <;> first | rfl | cases h
theorem swB_ok {value : Expr} {y : Str} {py : Pos} {l : Nat} {env : Env} (hk : env.scope.kind = .function) : swapsWith value (some (.Name y py)) l env = pure (swB value y py env.scope) := by
  have hb : env.blockKind = .function := by unfold Env.blockKind; rw [hk]; rfl
  have key : ∀ (scope : Scope) (p : Pos), (env.blockKind == .function && env.kindOf y == some .local && py.line == p.line && !(scope.names.any fun (n, k) => n == y && (k == .local || k == .cell))) = (env.scope.names.lookup y == some .local && py.line == p.line && !(scope.names.any fun (n, k) => n == y && (k == .local || k == .cell))) := by
    intro scope p
    rw [hb]
    rfl
  cases value with
  | ListComp e g s p => exact congrArg pure (key s p)
  | SetComp e g s p => exact congrArg pure (key s p)
  | DictComp e v g s p => exact congrArg pure (key s p)
  | _ => rfl
theorem sw_other {value t : Expr} {l : Nat} {env : Env} (h : ∀ y p, t ≠ .Name y p) : swapsWith value (some t) l env = pure false := by
  cases value with
  | ListComp e g s p => cases t <;> first | rfl | (exact absurd rfl (h _ _))
  | SetComp e g s p => cases t <;> first | rfl | (exact absurd rfl (h _ _))
  | DictComp e v g s p => cases t <;> first | rfl | (exact absurd rfl (h _ _))
  | _ => rfl
def isTupV : Expr → Bool
  | .Tuple _ _ _ => true
  | .List _ _ => true
  | _ => false
theorem ss_none {ts : List Expr} {value : Expr} {env : Env} (h : isTupV value = false) : swappedStores ts value env = pure none := by
  unfold swappedStores
  cases value with
  | Tuple es k p => cases h
  | _ =>
    cases ts with
    | nil => rfl
    | cons a as => cases as <;> cases a <;> rfl
theorem ss_plain {t : Expr} {value : Expr} {env : Env} (h : isTupV t = false) : swappedStores [t] value env = pure none := by
  unfold swappedStores
  cases t with
  | Tuple es k p => cases h
  | List es p => cases h
  | _ => rfl
end Lo
/-! Comprehensions of two clauses: the second walks a value or a range. -/
namespace Lo
open PySem PySem.Spec PyProof.Rows L2
variable {Y : Cy}
/-- all but D stands -/
structure EB (D : Addr) (g : Gm) (H : Hp) (g' : Gm) (H' : Hp) : Prop where
  mu : g'.mu = g.mu
  fz : ∀ a, g.fz a → g'.fz a
  keep : ∀ a o, a ≠ D → H a = some o → a ∉ g.mu → H' a = some o
section
variable {K : PySem.W.Frag} {w : World} {sx : Option (Addr × Nat)} {g g1 g2 : Gm} {H H1 H2 : Hp} {m : Mem} {D : Addr}
theorem EB.refl : EB D g H g H := ⟨rfl, fun _ h => h, fun _ _ _ h _ => h⟩
theorem EB.trans (x : EB D g H g1 H1) (y : EB D g1 H1 g2 H2) : EB D g H g2 H2 :=
  ⟨y.mu.trans x.mu, fun a h => y.fz a (x.fz a h), fun a o hd h hm => y.keep a o hd (x.keep a o hd h hm) (by rw [x.mu]; exact hm)⟩
theorem EB.ext (x : Ext0 g H g1 H1) : EB D g H g1 H1 := ⟨x.2, x.1.fz, fun a o _ h hm => x.1.keep a o h (.inl hm)⟩
theorem EB.over {o : HO} (x : EB D g H g1 H1) : EB D g H g1 (upd H1 D o) := ⟨x.mu, x.fz, fun a u hd h hm => by rw [upd_ne hd]; exact x.keep a u hd h hm⟩
theorem EB.keeps (s : Sr K w g H m) (hD : ∃ xs, H D = some (.lst xs)) (hf : ¬ g.fz D) (x : EB D g H g1 H1) : Keeps K H g.fz H1 g1.fz where
  tup := fun a o xs h => x.keep _ _ (fun e => by subst e; obtain ⟨ys, q⟩ := hD; rw [q] at h; cases h) h (s.notTup h)
  lst := fun a xs f h => x.keep _ _ (fun e => hf (by rw [← e]; exact f)) h (s.dis a f)
  dic := fun a xs f h => x.keep _ _ (fun e => hf (by rw [← e]; exact f)) h (s.dis a f)
  fz := x.fz
theorem Rv.keepB {x : W} {v : V} (s : Sr K w g H m) (hD : ∃ xs, H D = some (.lst xs)) (hf : ¬ g.fz D) (e : EB D g H g1 H1) (h : Rv K w sx g H x v) : Rv K w sx g1 H1 x v := by
  have k := e.keeps s hD hf
  cases x with
  | d x => exact Rp.keep k h
  | ref n =>
    obtain ⟨a, h1, h2⟩ := h
    exact ⟨a, by rw [e.mu]; exact h1, h2⟩
  | exc c => exact h
  | ro xs =>
    obtain ⟨a, o, vs, h1, h2, z, r⟩ := h
    refine ⟨a, o, vs, h1, e.keep _ _ (fun q => by subst q; obtain ⟨ys, q⟩ := hD; rw [q] at h2; cases h2) h2 (fun hm => ?_), z, r.keep k⟩
    rcases s.at hm with ⟨_, q⟩ | ⟨_, q⟩ <;> rw [h2] at q <;> cases q
  | rod kvs =>
    obtain ⟨a, ks, h1, h2, z, r⟩ := h
    exact ⟨a, ks, h1, h2, z, r.keep k⟩
  | new _ => exact h.elim
  | newd _ => exact h.elim
  | it _ => exact h.elim
theorem Er.keepB {ρ : En} {σ : L2.St} (s : Sr K w g H m) (hD : ∃ xs, H D = some (.lst xs)) (hf : ¬ g.fz D) (e : EB D g H g1 H1) (h : Er K w sx g H ρ σ) : Er K w sx g1 H1 ρ σ :=
  ⟨h.len, fun i x q => let ⟨v, h1, h2⟩ := h.val i x q; ⟨v, h1, h2.keepB s hD hf e⟩⟩
end
/-- J gives the items ds as long as all but D stands -/
def WalkB (K : PySem.W.Frag) (w : World) (g : Gm) (H0 H : Hp) (J : It) (ds : List PyData) : Prop :=
  ∃ (G : Hp → Prop) (Yv : Nat → Hp → V → Hp → Prop), Walk J ds.length G Yv ∧ ∀ D, H0 D ≠ none → (∃ xs, H D = some (.lst xs)) → D ∉ g.mu → ¬ g.fz D → ∀ g2 H2, EB D g H g2 H2 → G H2 ∧ ∀ i x H3, i < ds.length → Yv i H2 x H3 → ∃ d, ds[i]? = some d ∧ H3 = H2 ∧ Rp K w H2 g2.fz d x
def rdJ (Y : Cy) (f : En → Mem → R W) : TI := fun σ H R => ∃ ρ m g, Sr Y.X.K Y.X.w g H m ∧ Er Y.X.K Y.X.w Y.sx g H ρ σ ∧ match f ρ m with
  | .ok w m1 => ∃ ds, itemsZ w = some ds ∧ ∀ J H1 g1, Sr Y.X.K Y.X.w g1 H1 m1 → Ext0 g H g1 H1 → WalkB Y.X.K Y.X.w g1 H H1 J ds → R J H1
  | .exc c m1 => ∀ (_ : Unit) H1 g1, Sr Y.X.K Y.X.w g1 H1 m1 → Ext0 g H g1 H1 → Y.Wx (Y.cx c) none σ H1
  | .bad => False
section
variable {K : PySem.W.Frag} {w : World} {sx : Option (Addr × Nat)} {g : Gm} {H H0 : Hp} {m : Mem}
theorem walkB_list {a : Addr} {vs : List V} {ds : List PyData} (s : Sr K w g H m) (r : RpA K w H g.fz ds vs) (st : ∀ D, H0 D ≠ none → (∃ xs, H D = some (.lst xs)) → D ∉ g.mu → ¬ g.fz D → ∀ g2 H2, EB D g H g2 H2 → SqL K H2 a vs) : WalkB K w g H0 H (Itl K a) ds := by
  refine ⟨fun H => SqL K H a vs, YAt vs, by rw [r.length]; exact walk_list (K := K) (a := a) (xs := vs), fun D h1 h2 h3 h4 g2 H2 x => ⟨st D h1 h2 h3 h4 g2 H2 x, fun i y H3 hi ⟨e1, e2⟩ => ?_⟩⟩
  subst e1
  obtain ⟨v, e3, e4⟩ := r.get (List.getElem?_eq_getElem hi)
  rw [e2] at e3
  cases e3
  exact ⟨_, List.getElem?_eq_getElem hi, rfl, e4.keep (x.keeps s h2 h4)⟩
theorem walkB_tup {a : Addr} {vs : List V} {ds : List PyData} (s : Sr K w g H m) (r : RpA K w H g.fz ds vs) (ht : TpAt K H a vs) : WalkB K w g H0 H (Itt K a) ds := by
  refine ⟨fun H => SqT K H a vs, YAt vs, by rw [r.length]; exact walk_tup (K := K) (a := a) (xs := vs), fun D h1 h2 h3 h4 g2 H2 x => ⟨?_, fun i y H3 hi ⟨e1, e2⟩ => ?_⟩⟩
  · exact TpAt.sq (ht.imp (fun ⟨o, h, n⟩ => ⟨o, (x.keeps s h2 h4).tup _ _ _ h, n⟩) id)
  · subst e1
    obtain ⟨v, e3, e4⟩ := r.get (List.getElem?_eq_getElem hi)
    rw [e2] at e3
    cases e3
    exact ⟨_, List.getElem?_eq_getElem hi, rfl, e4.keep (x.keeps s h2 h4)⟩
theorem walkB_str {x : Str} (hx : sOk x) : WalkB K w g H0 H (Its x) (signs x) := by
  have hl : (signs x).length = x.cps.size := by unfold signs; rw [List.length_map, Array.length_toList]
  refine ⟨fun _ => True, fun i H v H' => H' = H ∧ ∃ c, x.cps[i]? = some c ∧ v = .str ⟨#[c]⟩, by rw [hl]; exact walk_str (z := x), fun _ _ _ _ _ g2 H2 _ => ⟨trivial, fun i y H3 hi ⟨e1, c, e2, e3⟩ => ?_⟩⟩
  subst e1 e3
  have ec : x.cps.toList[i]? = some c := by rw [Array.getElem?_toList]; exact e2
  refine ⟨.str ⟨#[c]⟩, by unfold signs; rw [List.getElem?_map, ec]; rfl, rfl, .str (sOk_sign hx (List.mem_of_getElem? ec))⟩
theorem walkB_rng {lo : Int} {n : Nat} : WalkB K w g H0 H (Itr lo n) ((List.range n).map fun k => .int (lo + (k : Nat))) := by
  refine ⟨fun _ => True, YFn fun i => .int (lo + i), by rw [List.length_map, List.length_range]; exact walk_range (lo := lo) (n := n), fun _ _ _ _ _ g2 H2 _ => ⟨trivial, fun i y H3 hi ⟨e1, e2⟩ => ?_⟩⟩
  subst e1 e2
  rw [List.length_map, List.length_range] at hi
  exact ⟨_, by rw [List.getElem?_map, List.getElem?_range hi]; rfl, rfl, .int _⟩
theorem stayB {x : W} {v : V} {ds : List PyData} (s : Sr K w g H m) (r : Rw K w sx g H x v) (fr : Fresh H0 x v) (h : listZ x = some ds) :
    ∃ a vs, v = .ref a ∧ vs.length ≤ LINE ∧ RpA K w H g.fz ds vs ∧ SqL K H a vs ∧ ∀ D, H0 D ≠ none → (∃ xs, H D = some (.lst xs)) → D ∉ g.mu → ¬ g.fz D → ∀ g2 H2, EB D g H g2 H2 → SqL K H2 a vs := by
  cases x with
  | ro xs =>
    cases h
    obtain ⟨a, o, vs, e, q, z, r⟩ := r
    refine ⟨a, vs, e, z, r, .inl (.inr ⟨o, q⟩), fun D _ hD _ _ g2 H2 x => .inl (.inr ⟨o, x.keep _ _ (fun e => by subst e; obtain ⟨ys, q'⟩ := hD; rw [q'] at q; cases q) q (fun hm => ?_)⟩)⟩
    rcases s.at hm with ⟨_, z⟩ | ⟨_, z⟩ <;> rw [q] at z <;> cases z
  | d x =>
    cases x with
    | list xs =>
      cases h
      obtain ⟨a, vs, rfl, q, z, r⟩ := Rp.lstI (show Rp K w H g.fz (.list _) v from r)
      exact ⟨a, vs, rfl, z, r, q.sq, fun D _ _ _ hf g2 H2 x => .inl (.inl (x.keep _ _ (fun e => hf (by rw [← e]; exact q.1)) q.2 (s.dis a q.1)))⟩
    | _ => cases h
  | new xs =>
    cases h
    obtain ⟨a, vs, rfl, q, z, r, _, n⟩ := r
    exact ⟨a, vs, rfl, z, r, .inl (.inl q), fun D hD0 _ _ _ g2 H2 x => .inl (.inl (x.keep _ _ (fun e => hD0 (by rw [← e]; exact fr a rfl)) q n))⟩
  | _ => cases h
end
theorem snj_val {tg e : Expr} {fa : En → Mem → R W} (he : PE Y.X e (rdE Y fa)) : PI Y.X tg e (rdJ Y fa) := by
  refine ⟨fun pins s σ H R I ⟨ρ, m, g, S, E, h⟩ => ?_⟩
  cases q : fa ρ m with
  | bad => rw [q] at h; exact h.elim
  | exc c m1 =>
    rw [q] at h
    exact (pi_list he).run pins s σ H R I ⟨ρ, m, g, S, E, by rw [q]; exact h⟩
  | ok x m1 =>
    rw [q] at h
    obtain ⟨ds, ei, hR⟩ := h
    have lst : listZ x = some ds → wpAny (model Y.X.prog Y.X.w) Y.X.A (eval e Y.X.env) (fun v s1 => wpAny (model Y.X.prog Y.X.w) Y.X.A (pyIter v) (PIE Y.X pins σ tg R) Y.X.xe s1) Y.X.xe s := fun el =>
      (pi_list he).run pins s σ H R I ⟨ρ, m, g, S, E, by
        rw [q]
        intro v H1 g1 s1 e1 rx
        obtain ⟨a, vs, rfl, _, r, hs, st⟩ := stayB s1 rx.1 rx.2 el
        exact ⟨a, rfl, ⟨vs, hs⟩, hR _ H1 g1 s1 e1 (walkB_list s1 r st)⟩⟩
    cases x with
    | d x =>
      cases x with
      | tuple xs =>
        cases ei
        exact (pi_tup he).run pins s σ H R I ⟨ρ, m, g, S, E, by
          rw [q]
          intro v H1 g1 s1 e1 rx
          obtain ⟨a, vs, rfl, ha, _, r⟩ := Rp.tupI (show Rp Y.X.K Y.X.w H1 g1.fz (.tuple ds) v from rx.1)
          exact ⟨a, rfl, ⟨vs, ha.sq⟩, hR _ H1 g1 s1 e1 (walkB_tup s1 r ha)⟩⟩
      | str x =>
        cases ei
        exact (pi_str he).run pins s σ H R I ⟨ρ, m, g, S, E, by
          rw [q]
          intro v H1 g1 s1 e1 rx
          obtain ⟨rfl, k⟩ := Rp.strI (show Rp Y.X.K Y.X.w H1 g1.fz (.str x) v from rx.1)
          exact ⟨x, rfl, hR _ H1 g1 s1 e1 (walkB_str k)⟩⟩
      | _ => exact lst ei
    | it xs =>
      exact (pi_list he).run pins s σ H R I ⟨ρ, m, g, S, E, by
        rw [q]
        exact fun v H1 g1 s1 e1 rx => (show False from rx.1).elim⟩
    | _ => exact lst ei
theorem snj_rng1 {tg a : Expr} {q pos : Pos} {fs : En → Mem → R (List W)} (hg : Gl Y.X "range") (hm : Y.X.mg "range" = none) (ha : PA Y.X [a] (rdA Y fs)) (na : noStar a = true) (hl : ∀ ρ m xs m', fs ρ m = .ok xs m' → xs.length = 1) : PI Y.X tg (.Call (.Name "range" q) [a] [] pos) (rdJ Y (rngF fs)) := by
  have P := pi_range1 (tg := tg) (p := q) (pos := pos) hg hm ha (star_cons na)
  refine ⟨fun pins s σ H Rr I ⟨ρ, m, g, S, E, h⟩ => P.run pins s σ H Rr I ?_⟩
  refine ⟨ρ, m, g, S, E, ?_⟩
  unfold rngF at h
  cases q : fs ρ m with
  | bad => rw [q] at h; exact h.elim
  | exc n m1 => rw [q] at h; exact h
  | ok xs m1 =>
    rw [q] at h
    intro vs H1 g1 s1 e1 rx
    have hlen := hl _ _ _ _ q
    cases qk : rngW xs with
    | none =>
      have e : R.bind (.ok xs m1) (fun xs m => R.of m (rngW xs)) = .bad := by show R.of m1 (rngW xs) = _; rw [qk]; rfl
      rw [e] at h
      exact h.elim
    | some z =>
      have e : R.bind (.ok xs m1) (fun xs m => R.of m (rngW xs)) = .ok z m1 := by show R.of m1 (rngW xs) = _; rw [qk]; rfl
      rw [e] at h
      obtain ⟨ds, ei, hR⟩ := h
      unfold rngW at qk
      split at qk
      · rename_i j
        split at qk
        · rename_i hj
          cases qk
          obtain ⟨v, rfl, rv, _⟩ := (show RwA Y.X.K Y.X.w Y.sx g1 H H1 [W.d (.int j)] vs from rx).oneI
          obtain rfl := Rp.intI (show Rp Y.X.K Y.X.w H1 g1.fz (.int j) v from rv)
          cases ei
          refine ⟨j, rfl, hj.1, hj.2.1, hR _ H1 g1 s1 e1 ?_⟩
          have e : ((List.range j.toNat).map fun k => PyData.int (k : Nat)) = (List.range j.toNat).map fun k => .int (0 + (k : Nat)) := by
            refine List.map_congr_left fun k _ => ?_
            rw [Int.zero_add]
          rw [e]
          exact walkB_rng
        · cases qk
      · exact absurd hlen (by simp)
      · cases qk
/-! ### the two loops -/
theorem lc2_it {J : It} {n : Nat} {G : Hp → Prop} {Yv : Nat → Hp → V → Hp → Prop} (w : Walk J n G Yv) {H0 : Hp} {St : Hp → Prop} {Step : (Hp → Prop) → V → Hp → Prop} (Pv : Nat → Hp → Prop) (h0 : Pv 0 H0) (hG : ∀ i H, i ≤ n → Pv i H → G H)
    (hs : ∀ i x H H', i < n → Pv i H → Yv i H x H' → Step (Pv (i + 1)) x H') (hd : ∀ H, Pv n H → St H) :
    ∃ Wm : Nat → Nat → Hp → Prop, (∃ m, Wm 0 m H0) ∧ ∀ i m H, Wm i m H → (J.stop i H ∧ St H) ∨ (J.go i H ∧ ∃ Nx : Hp → Prop, (∀ H', Nx H' → ∃ m', m' < m ∧ Wm (i + 1) m' H') ∧ ∀ x H', J.yld i H x H' → Step Nx x H') := by
  refine ⟨fun i m H => m = n - i ∧ i ≤ n ∧ Pv i H, ⟨n, by simp, Nat.zero_le _, h0⟩, ?_⟩
  rintro i m H ⟨rfl, hi, p⟩
  have q := hG i H hi p
  rcases Nat.lt_or_eq_of_le hi with hlt | rfl
  · exact .inr ⟨w.goes i H hlt q, Pv (i + 1), fun H' p' => ⟨n - (i + 1), by omega, rfl, hlt, p'⟩, fun x H' y => hs i x H H' hlt p (w.yields i H x H' hlt q y)⟩
  · exact .inl ⟨w.stops H q, hd H p⟩
def inL (fi1 : En → Mem → R W) (ft1 : En → Mem → R Bool) (fe : En → Mem → R W) (own1 : List Nat) (tg1 : Tg) (ρ : En) (acc : List PyData) (m : Mem) : R (List PyData) := (fi1 ρ m).bind fun w1 m => match itemsZ w1 with
  | some ys => lcGo (turnL ft1 fe tg1 (wipeE ρ own1)) addL ys acc m
  | none => .bad
def turn2 (ft : En → Mem → R Bool) (fi1 : En → Mem → R W) (ft1 : En → Mem → R Bool) (fe : En → Mem → R W) (tg : Tg) (own1 : List Nat) (tg1 : Tg) (ρ : En) : PyData → List PyData → Mem → R (List PyData) := fun x acc m => match tgSet tg x ρ with
  | some ρ' => (ft ρ' m).bind fun b m => if b then inL fi1 ft1 fe own1 tg1 ρ' acc m else .ok acc m
  | none => .bad
def lc2F (fi : En → Mem → R W) (ft : En → Mem → R Bool) (fi1 : En → Mem → R W) (ft1 : En → Mem → R Bool) (fe : En → Mem → R W) (own : List Nat) (tg : Tg) (own1 : List Nat) (tg1 : Tg) : En → Mem → R W := fun ρ m => (fi ρ m).bind fun w m => (lc2Walk (turn2 ft fi1 ft1 fe tg own1 tg1 (wipeE ρ own)) [] w m).bind fun r m => .ok (.new r) m
theorem lc2Walk_ok {γ : Type} {f : PyData → γ → Mem → R γ} {acc : γ} {w : W} {m : Mem} {α : Type} {k : γ → Mem → R α} {P : R α → Prop} (hb : ¬ P .bad) (h : P ((lc2Walk f acc w m).bind k)) :
    ∃ ds r m', items m w = some ds ∧ lc2Go f ds acc (lockM m (lockOf m w)) = .ok r m' ∧ P (k r (unlockM m' (lockOf m w))) := by
  unfold lc2Walk at h
  cases e1 : items m w with
  | none => rw [e1] at h; exact absurd h hb
  | some ds =>
    rw [e1] at h
    dsimp only at h
    cases e2 : lc2Go f ds acc (lockM m (lockOf m w)) with
    | ok r m' => rw [e2] at h; exact ⟨ds, r, m', rfl, e2, h⟩
    | exc c m' => rw [e2] at h; exact absurd h hb
    | bad => rw [e2] at h; exact absurd h hb
/-- ahead of a turn of the first loop -/
def CS2 (K : PySem.W.Frag) (w : World) (f : PyData → List PyData → Mem → R (List PyData)) (ds : List PyData) (r : List PyData) (m' : Mem) (gl : Gm) (H1 : Hp) (D : Addr) (i : Nat) (H : Hp) : Prop :=
  ∃ acc m g ho, Sr K w g H m ∧ Ext0 gl H1 g H ∧ H D = some ho ∧ ARl K w g H acc ho ∧ D ∉ g.mu ∧ ¬ g.fz D ∧ lc2Go f (ds.drop i) acc m = .ok r m'
/-- ahead of a turn of the second -/
def CS1 (K : PySem.W.Frag) (w : World) (f : PyData → Mem → R (Option PyData)) (ys : List PyData) (r : List PyData) (m' : Mem) (gl : Gm) (H1 : Hp) (g6 : Gm) (H6 : Hp) (D : Addr) (j : Nat) (H : Hp) : Prop :=
  ∃ acc m g ho, Sr K w g H m ∧ Ext0 gl H1 g H ∧ EB D g6 H6 g H ∧ H D = some ho ∧ ARl K w g H acc ho ∧ D ∉ g.mu ∧ ¬ g.fz D ∧ lcGo f addL (ys.drop j) acc m = .ok r m'
theorem CS2.turn {K : PySem.W.Frag} {w : World} {f : PyData → List PyData → Mem → R (List PyData)} {ds r : List PyData} {m' : Mem} {gl : Gm} {H1 : Hp} {D : Addr} {i : Nat} {H : Hp} {p : Bool} {G : Hp → Prop} {Yv : Nat → Hp → V → Hp → Prop}
    (wd : ∀ g2 H2, Ext gl H1 g2 H2 → G H2 ∧ ∀ i x H3, i < ds.length → Yv i H2 x H3 → ∃ d, ds[i]? = some d ∧
      ((H3 = H2 ∧ Rp K w H2 g2.fz d x) ∨ (p = true ∧ ∃ T a b da db, d = .tuple [da, db] ∧ x = .ref T ∧ H2 T = none ∧ H3 = upd H2 T (.tup [a, b]) ∧ Rp K w H2 g2.fz da a ∧ Rp K w H2 g2.fz db b)))
    (c : CS2 K w f ds r m' gl H1 D i H) {x : V} {H3 : Hp} (hi : i < ds.length) (hy : Yv i H x H3) :
    ∃ acc m g ho d, Sr K w g H3 m ∧ Ext0 gl H1 g H3 ∧ H3 D = some ho ∧ ARl K w g H3 acc ho ∧ D ∉ g.mu ∧ ¬ g.fz D ∧ ItX K w p H3 g.fz d x ∧ lc2Go f (d :: ds.drop (i + 1)) acc m = .ok r m' := by
  obtain ⟨acc, m, g, ho, S, E, hD, ha, h1, h2, h3⟩ := c
  obtain ⟨_, h4⟩ := wd g H E.1
  obtain ⟨d, ed, h5⟩ := h4 i x H3 hi hy
  have edr : ds.drop i = d :: ds.drop (i + 1) := by
    rw [List.drop_eq_getElem_cons hi]
    congr 1
    rw [List.getElem?_eq_getElem hi] at ed
    exact Option.some.inj ed
  rw [edr] at h3
  rcases h5 with ⟨rfl, rp⟩ | ⟨hp, T, a, b, da, db, e1, e2, hT, e3, ra, rb⟩
  · refine ⟨acc, m, g, ho, d, S, E, hD, ha, h1, h2, ?_, h3⟩
    cases p with
    | true => exact .inl rp
    | false => exact rp
  · subst e3
    have x0 := Ext0.new (g := g) (o := .tup [a, b]) hT
    have k := x0.1.keeps S
    refine ⟨acc, m, g, ho, d, S.new hT, E.trans S x0, ?_, ARl.keep _ _ _ _ _ _ k ha, h1, h2, ?_, h3⟩
    · rw [upd_ne (ne_of_none hD hT)]; exact hD
    · subst hp
      exact .inr ⟨T, da, db, a, b, e1, e2, upd_same, ra.keep k, rb.keep k⟩
theorem rd_lc2 {p : Bool} {fi : En → Mem → R W} {ft : En → Mem → R Bool} {fi1 : En → Mem → R W} {ft1 : En → Mem → R Bool} {fe : En → Mem → R W} {own : List Nat} {tg : Tg} {own1 : List Nat} {tg1 : Tg} {σ : L2.St} {H : Hp} {Q : VK} (ho : ∀ i ∈ tgSlots tg, i ∈ own) (ho1 : ∀ i ∈ tgSlots tg1, i ∈ own1)
    (h : rdE Y (lc2F fi ft fi1 ft1 fe own tg own1 tg1) σ H Q) : tLc2 (rdI Y p fi) (gX Y.nox p tg) (rdT Y.nox ft) (rdJ Y.nox fi1) (gX Y.nox false tg1) (rdT Y.nox ft1) (rdE Y.nox fe) own own1 σ H Q := by
  obtain ⟨ρ, m, g, S, E, h⟩ := h
  refine ⟨ρ, m, g, S, E, ?_⟩
  unfold lc2F at h
  cases q : fi ρ m with
  | bad => rw [q] at h; exact h.elim
  | exc c m1 => rw [q] at h; exact h
  | ok wv m1 =>
    rw [q] at h
    obtain ⟨ds, r, m', e1, e2, h⟩ := lc2Walk_ok (P := fun r => Pst Y (relW Y) g H σ r Q) (fun z => z) h
    refine ⟨ds, e1, fun J H1 g1 s1 x1 wd D hD => ?_⟩
    have hlk : ∀ n, lockOf m1 wv = some n → ∃ xs, m1[n]? = some (.lst xs) := fun n e => (lockOf_some e).2
    obtain ⟨G, Yv, wk, wd⟩ := wd.ex
    refine lc2_it wk (CS2 Y.X.K Y.X.w (turn2 ft fi1 ft1 fe tg own1 tg1 (wipeE ρ own)) ds r m' (g1.lock (lockOf m1 wv)) H1 D) ?_ (fun i H2 _ c => ?_) (fun i x H2 H3 hi c hy => ?_) fun H2 c => ?_
    · have s2 := s1.lock hlk
      exact ⟨[], _, g1.lock (lockOf m1 wv), .lst [], s2.new hD, Ext0.new hD, upd_same, ⟨[], rfl, Nat.zero_le _, .nil⟩, fun q => s2.isS q hD, fun q => s2.fzs D q hD, by rw [List.drop_zero]; exact e2⟩
    · obtain ⟨acc, m2, g2, ho, S2, E2, _⟩ := c
      exact (wd g2 H2 E2.1).1
    · obtain ⟨acc, m2, g2, hob, d, S3, E3, hD3, ha, hm3, hf3, ri, eg⟩ := c.turn wd hi hy
      have eg : R.bind (turn2 ft fi1 ft1 fe tg own1 tg1 (wipeE ρ own) d acc m2) (lc2Go (turn2 ft fi1 ft1 fe tg own1 tg1 (wipeE ρ own)) (ds.drop (i + 1))) = .ok r m' := eg
      cases et : tgSet tg d (wipeE ρ own) with
      | none =>
        have et' : turn2 ft fi1 ft1 fe tg own1 tg1 (wipeE ρ own) d acc m2 = .bad := by unfold turn2; rw [et]
        rw [et'] at eg; cases eg
      | some ρ' =>
        have et' : turn2 ft fi1 ft1 fe tg own1 tg1 (wipeE ρ own) d acc m2 = (ft ρ' m2).bind fun b m => if b then inL fi1 ft1 fe own1 tg1 ρ' acc m else .ok acc m := by unfold turn2; rw [et]
        rw [et'] at eg
        have E1 := (E.keep S x1.1).lock (k := lockOf m1 wv)
        have E2 : Er Y.X.K Y.X.w Y.sx g2 H3 ρ σ := E1.keep (s1.lock hlk) E3.1
        refine gX_mk (Y := Y.nox) (m := m2) S3 (E2.wipe own) ri et fun σ' E' chg => ⟨(chg own ho).trans (wipe_wipe σ own own fun _ h => h), ?_⟩
        refine ⟨ρ', m2, g2, S3, E', ?_⟩
        cases eft : ft ρ' m2 with
        | bad => rw [eft] at eg; cases eg
        | exc c m3 => rw [eft] at eg; cases eg
        | ok b m3 =>
          rw [eft] at eg
          intro b' H5 g5 S5 x5 eb
          cases eb
          have hD5 : H5 D = some hob := x5.1.keep _ _ hD3 (.inl hm3)
          have hm5 : D ∉ g5.mu := by rw [x5.2]; exact hm3
          have hf5 : ¬ g5.fz D := nfz_of x5.1 hD3 hf3
          have ha5 := ARl.keep (K := Y.X.K) (w := Y.X.w) g2 H3 g5 H5 acc hob (x5.1.keeps S3) ha
          have E5 := E3.trans S3 x5
          have Er5 := E'.keep S3 x5.1
          cases b with
          | false =>
            rw [if_neg Bool.false_ne_true]
            exact ⟨acc, m3, g5, hob, S5, E5, hD5, ha5, hm5, hf5, eg⟩
          | true =>
            rw [if_pos rfl]
            have eg : R.bind (inL fi1 ft1 fe own1 tg1 ρ' acc m3) (lc2Go (turn2 ft fi1 ft1 fe tg own1 tg1 (wipeE ρ own)) (ds.drop (i + 1))) = .ok r m' := eg
            unfold inL at eg
            refine ⟨ρ', m3, g5, S5, Er5, ?_⟩
            cases efi : fi1 ρ' m3 with
            | bad => rw [efi] at eg; cases eg
            | exc c m4 => rw [efi] at eg; cases eg
            | ok w1 m4 =>
              rw [efi] at eg
              cases ez : itemsZ w1 with
              | none =>
                have eg : R.bind (match itemsZ w1 with | some ys => lcGo (turnL ft1 fe tg1 (wipeE ρ' own1)) addL ys acc m4 | none => .bad) (lc2Go (turn2 ft fi1 ft1 fe tg own1 tg1 (wipeE ρ own)) (ds.drop (i + 1))) = .ok r m' := eg
                rw [ez] at eg; cases eg
              | some ys =>
                have eg : R.bind (match itemsZ w1 with | some ys => lcGo (turnL ft1 fe tg1 (wipeE ρ' own1)) addL ys acc m4 | none => .bad) (lc2Go (turn2 ft fi1 ft1 fe tg own1 tg1 (wipeE ρ own)) (ds.drop (i + 1))) = .ok r m' := eg
                rw [ez] at eg
                dsimp only at eg
                cases el : lcGo (turnL ft1 fe tg1 (wipeE ρ' own1)) addL ys acc m4 with
                | bad => rw [el] at eg; cases eg
                | exc c m5 => rw [el] at eg; cases eg
                | ok racc m5 =>
                  rw [el] at eg
                  have eg : lc2Go (turn2 ft fi1 ft1 fe tg own1 tg1 (wipeE ρ own)) (ds.drop (i + 1)) racc m5 = .ok r m' := eg
                  refine ⟨ys, ez, fun J1 H6 g6 S6 x6 wd1 => ?_⟩
                  have hD6 : H6 D = some hob := x6.1.keep _ _ hD5 (.inl hm5)
                  have hm6 : D ∉ g6.mu := by rw [x6.2]; exact hm5
                  have hf6 : ¬ g6.fz D := nfz_of x6.1 hD5 hf5
                  have ha6 := ARl.keep (K := Y.X.K) (w := Y.X.w) g5 H5 g6 H6 acc hob (x6.1.keeps S5) ha5
                  have E6 := E5.trans S5 x6
                  have Er6 := Er5.keep S5 x6.1
                  have hDl : ∃ xs, H6 D = some (.lst xs) := by obtain ⟨vs, e, _⟩ := ha6; exact ⟨vs, by rw [hD6, e]⟩
                  obtain ⟨G1, Yv1, wk1, wd1⟩ := wd1
                  have wd1 := wd1 D (by rw [hD5]; exact fun e => nomatch e) hDl hm6 hf6
                  refine lc2_it wk1 (CS1 Y.X.K Y.X.w (turnL ft1 fe tg1 (wipeE ρ' own1)) ys racc m5 (g1.lock (lockOf m1 wv)) H1 g6 H6 D) ?_ (fun j H7 _ c => ?_) (fun j y H7 H8 hj c hy1 => ?_) fun H7 c => ?_
                  · exact ⟨acc, m4, g6, hob, S6, E6, EB.refl, hD6, ha6, hm6, hf6, by rw [List.drop_zero]; exact el⟩
                  · obtain ⟨acc7, m7, g7, ho7, S7, E7, B7, _⟩ := c
                    exact (wd1 g7 H7 B7).1
                  · obtain ⟨acc7, m7, g7, ho7, S7, E7, B7, hD7, ha7, hm7, hf7, eg7⟩ := c
                    obtain ⟨d7, ed7, rfl, rp⟩ := (wd1 g7 H7 B7).2 j y H8 hj hy1
                    have edr : ys.drop j = d7 :: ys.drop (j + 1) := by
                      rw [List.drop_eq_getElem_cons hj]
                      congr 1
                      rw [List.getElem?_eq_getElem hj] at ed7
                      exact Option.some.inj ed7
                    rw [edr] at eg7
                    have eg7 : R.bind (turnL ft1 fe tg1 (wipeE ρ' own1) d7 m7) (fun o m => lcAdd addL (lcGo (turnL ft1 fe tg1 (wipeE ρ' own1)) addL (ys.drop (j + 1))) acc7 o m) = .ok racc m5 := eg7
                    cases et1 : tgSet tg1 d7 (wipeE ρ' own1) with
                    | none =>
                      have et' : turnL ft1 fe tg1 (wipeE ρ' own1) d7 m7 = .bad := by unfold turnL; rw [et1]
                      rw [et'] at eg7; cases eg7
                    | some ρ7 =>
                      have et' : turnL ft1 fe tg1 (wipeE ρ' own1) d7 m7 = (ft1 ρ7 m7).bind fun b m => if b then (fe ρ7 m).bind fun y m => .of m ((laid y).map some) else .ok none m := by unfold turnL; rw [et1]
                      rw [et'] at eg7
                      have Er7 := Er6.keepB S6 hDl hf6 B7
                      refine gX_mk (Y := Y.nox) (p := false) (m := m7) S7 (Er7.wipe own1) rp et1 fun σ7 E'7 chg7 => ⟨(chg7 own1 ho1).trans (wipe_wipe σ' own1 own1 fun _ h => h), ?_⟩
                      refine ⟨ρ7, m7, g7, S7, E'7, ?_⟩
                      cases eft1 : ft1 ρ7 m7 with
                      | bad => rw [eft1] at eg7; cases eg7
                      | exc c m8 => rw [eft1] at eg7; cases eg7
                      | ok b m8 =>
                        rw [eft1] at eg7
                        intro b' H9 g9 S9 x9 eb
                        cases eb
                        have hD9 : H9 D = some ho7 := x9.1.keep _ _ hD7 (.inl hm7)
                        have hm9 : D ∉ g9.mu := by rw [x9.2]; exact hm7
                        have hf9 : ¬ g9.fz D := nfz_of x9.1 hD7 hf7
                        have ha9 := ARl.keep (K := Y.X.K) (w := Y.X.w) g7 H8 g9 H9 acc7 ho7 (x9.1.keeps S7) ha7
                        have E9 := E7.trans S7 x9
                        have B9 := B7.trans (EB.ext x9)
                        cases b with
                        | false =>
                          rw [if_neg Bool.false_ne_true]
                          exact ⟨acc7, m8, g9, ho7, S9, E9, B9, hD9, ha9, hm9, hf9, eg7⟩
                        | true =>
                          rw [if_pos rfl]
                          have eg7 : ((R.bind ((fe ρ7 m8).bind fun y m => .of m ((laid y).map some)) fun o m => lcAdd addL (lcGo (turnL ft1 fe tg1 (wipeE ρ' own1)) addL (ys.drop (j + 1))) acc7 o m)) = .ok racc m5 := eg7
                          refine ⟨ρ7, m8, g9, S9, E'7.keep S7 x9.1, ?_⟩
                          cases efe : fe ρ7 m8 with
                          | bad => rw [efe] at eg7; cases eg7
                          | exc c m9 => rw [efe] at eg7; cases eg7
                          | ok z m9 =>
                            rw [efe] at eg7
                            intro yv Ha ga Sa xa ry
                            have ry : relW Y ga H9 Ha z yv := ry
                            have eg7 : ((R.bind (R.of m9 ((laid z).map some)) fun o m => lcAdd addL (lcGo (turnL ft1 fe tg1 (wipeE ρ' own1)) addL (ys.drop (j + 1))) acc7 o m)) = .ok racc m5 := eg7
                            cases elz : laid z with
                            | none => rw [elz] at eg7; cases eg7
                            | some dz =>
                              rw [elz] at eg7
                              have eg7 : lcAdd addL (lcGo (turnL ft1 fe tg1 (wipeE ρ' own1)) addL (ys.drop (j + 1))) acc7 (some dz) m9 = .ok racc m5 := eg7
                              unfold lcAdd at eg7
                              dsimp only at eg7
                              obtain ⟨vs, rfl, hz, ra⟩ := ha9
                              cases ead : addL dz acc7 with
                              | none => rw [ead] at eg7; cases eg7
                              | some acc8 =>
                                rw [ead] at eg7
                                unfold addL at ead
                                split at ead
                                · rename_i hlt
                                  cases ead
                                  have hDa : Ha D = some (.lst vs) := xa.1.keep _ _ hD9 (.inl hm9)
                                  have hlv : vs.length < LINE := by rw [← ra.length]; exact hlt
                                  refine ⟨vs, hDa, by rw [line_eq]; exact hlv, ?_⟩
                                  have S10 := ice_sr (H0 := H9) Sa
                                  have x10 := ice_ext (H := Ha) xa
                                  have rd := ice_laid (H0 := H9) ry.1 ry.2 elz
                                  have hm10 : D ∉ (ga.ice H9 Ha).mu := by show D ∉ ga.mu; rw [xa.2]; exact hm9
                                  have hf10 : ¬ (ga.ice H9 Ha).fz D := nfz_of x10.1 hD9 hf9
                                  have k10 := over_keeps (K := Y.X.K) (o := .lst (vs ++ [yv])) hDa hf10 fun _ _ z => nomatch z
                                  refine ⟨acc7 ++ [dz], m9, ga.ice H9 Ha, .lst (vs ++ [yv]), S10.over hDa hm10 hf10 (fun _ _ z => nomatch z), (E9.trans S9 x10).over hD, (B9.trans (EB.ext x10)).over, upd_same, ⟨_, rfl, ?_, ?_⟩, hm10, hf10, eg7⟩
                                  · rw [List.length_append, List.length_singleton]; omega
                                  · exact (RpA.append (ra.keep (x10.1.keeps S9)) (.cons rd .nil)).keep k10
                                · cases ead
                  · obtain ⟨acc7, m7, g7, ho7, S7, E7, B7, hD7, ha7, hm7, hf7, eg7⟩ := c
                    rw [List.drop_length] at eg7
                    have eg7 : R.ok acc7 m7 = R.ok racc m5 := eg7
                    cases eg7
                    exact ⟨_, _, g7, ho7, S7, E7, hD7, ha7, hm7, hf7, eg⟩
    · obtain ⟨acc, m2, g2, hob, S2, E2, hD2, ⟨vs, rfl, hz, ra⟩, hm2, hf2, eg⟩ := c
      rw [List.drop_length] at eg
      have eg : R.ok acc m2 = R.ok r m' := eg
      cases eg
      have hu : ∀ n, lockOf m1 wv = some n → n < g1.mu.length ∧ ∀ a, g1.mu[n]? = some a → ¬ g1.lk a := fun n e => by
        obtain ⟨xs, ex⟩ := hlk n e
        exact ⟨by rw [s1.len]; exact (List.getElem?_eq_some_iff.mp ex).1, fun a ha => s1.free ha ex fun _ z => nomatch z⟩
      have hmu : g2.mu = g1.mu := by rw [E2.2]; exact Gm.lock_mu
      have x2 : Ext0 g1 H1 (g2.relk g1.lk) H2 := ⟨E2.1.unlock, hmu⟩
      exact h.done (S2.unlock E2.1 hu) (x1.trans s1 x2) ⟨D, vs, rfl, hD2, hz, ra, hf2, hm2⟩ fun a e => by
        cases e; exact x1.1.none_of s1 hD
theorem snd_lc2 {p : Bool} {elt tg iter tg1 iter1 : Expr} {ifs ifs1 : List Expr} {scope : Scope} {own : List (Str × Nat)} {own1 : List Nat} {pos : Pos} {fi : En → Mem → R W} {ft : En → Mem → R Bool} {fi1 : En → Mem → R W} {ft1 : En → Mem → R Bool} {fe : En → Mem → R W} {t t1 : Tg} (C : Y.X.calm = true) (hN : Y.X.N.Nodup) (hi : PI Y.X tg iter (rdI Y p fi)) (ok : BlkOk Y.X.N Y.X.env.scope scope own) (hv : ∀ i ∈ own1, i ∈ own.map (·.2))
    (hg : InBlk Y scope fun Y => PG Y.X tg (gX Y p t)) (ht : InBlk Y scope fun Y => PTs Y.X ifs (rdT Y ft)) (hi1 : InBlk Y scope fun Y => PI Y.X tg1 iter1 (rdJ Y fi1)) (hg1 : InBlk Y scope fun Y => PG Y.X tg1 (gX Y false t1)) (ht1 : InBlk Y scope fun Y => PTs Y.X ifs1 (rdT Y ft1)) (he : InBlk Y scope fun Y => PE Y.X elt (rdE Y fe))
    (ho : ∀ i ∈ tgSlots t, i ∈ own.map (·.2)) (ho1 : ∀ i ∈ tgSlots t1, i ∈ own1) (hs : ∀ x, foldedSetIterable iter Y.X.env x = pure x) (hs1 : ∀ env x, foldedSetIterable iter1 env x = pure x) :
    PE Y.X (.ListComp elt [⟨tg, iter, ifs, 0⟩, ⟨tg1, iter1, ifs1, 0⟩] scope pos) (rdE Y (lc2F fi ft fi1 ft1 fe (own.map (·.2)) t own1 t1)) :=
  (pe_lc2 (g := gX Y.nox p t) (tt := rdT Y.nox ft) (wi1 := rdJ Y.nox fi1) (g1 := gX Y.nox false t1) (tt1 := rdT Y.nox ft1) (te := rdE Y.nox fe) C hN hi ok hv hg ht hi1 hg1 ht1 he hs hs1).imp fun σ H Q h => rd_lc2 ho ho1 h
theorem sns_lc2 {p : Bool} {i : Nat} {y : Str} {py spos : Pos} {elt tg iter tg1 iter1 : Expr} {ifs ifs1 : List Expr} {scope : Scope} {own : List (Str × Nat)} {own1 : List Nat} {pos : Pos} {fi : En → Mem → R W} {ft : En → Mem → R Bool} {fi1 : En → Mem → R W} {ft1 : En → Mem → R Bool} {fe : En → Mem → R W} {t t1 : Tg} (C : Y.X.calm = true) (hN : Y.X.N.Nodup) (hy : Y.X.N[i]? = some y) (hyl : Y.X.env.scope.names.lookup y = some .local)
    (hsw : swapsWith (.ListComp elt [⟨tg, iter, ifs, 0⟩, ⟨tg1, iter1, ifs1, 0⟩] scope pos) (some (.Name y py)) spos.line Y.X.env = pure true) (hi : PI Y.X tg iter (rdI Y p fi)) (ok : BlkOk Y.X.N Y.X.env.scope scope own) (hv : ∀ i ∈ own1, i ∈ own.map (·.2))
    (hg : InBlk Y scope fun Y => PG Y.X tg (gX Y p t)) (ht : InBlk Y scope fun Y => PTs Y.X ifs (rdT Y ft)) (hi1 : InBlk Y scope fun Y => PI Y.X tg1 iter1 (rdJ Y fi1)) (hg1 : InBlk Y scope fun Y => PG Y.X tg1 (gX Y false t1)) (ht1 : InBlk Y scope fun Y => PTs Y.X ifs1 (rdT Y ft1)) (he : InBlk Y scope fun Y => PE Y.X elt (rdE Y fe))
    (ho : ∀ i ∈ tgSlots t, i ∈ own.map (·.2)) (ho1 : ∀ i ∈ tgSlots t1, i ∈ own1) (hs : ∀ x, foldedSetIterable iter Y.X.env x = pure x) (hs1 : ∀ env x, foldedSetIterable iter1 env x = pure x) :
    PS Y.X (.Assign [.Name y py] (.ListComp elt [⟨tg, iter, ifs, 0⟩, ⟨tg1, iter1, ifs1, 0⟩] scope pos) spos) (tAsg (rdE Y (lc2F fi ft fi1 ft1 fe (own.map (·.2)) t own1 t1)) (gName i)) :=
  (ps_setLc2 (g := gX Y.nox p t) (tt := rdT Y.nox ft) (wi1 := rdJ Y.nox fi1) (g1 := gX Y.nox false t1) (tt1 := rdT Y.nox ft1) (te := rdE Y.nox fe) C hN hy hyl hsw hi ok hv hg ht hi1 hg1 ht1 he hs hs1).imp fun D σ H h => rd_lc2 ho ho1 h
end Lo
/-! From the text's tree to the small language. -/
namespace Lo
open PySem PySem.Spec PyProof.Rows L2
/-- what a name of the module stands for -/
inductive Ent where
  | fn (i np : Nat) (kw : List PyData) | cst (d : PyData) | cd (kvs : List (PyData × PyData)) | cls (k : Nat)
structure Info where
  N : List Str
  tab : List (Str × Ent)
  cells : List Nat
/-- where we are: the scope that runs; the written scope of a comprehension; not in an except suite -/
structure Pl where
  sc : Scope
  own : Option Scope
  calm : Bool
def isVis : Option NameKind → Bool
  | some .local => true
  | some .cell => true
  | some .free => true
  | _ => false
def isLoc : Option NameKind → Bool
  | some .local => true
  | some .cell => true
  | _ => false
def isGl : Option NameKind → Bool
  | some .globalImplicit => true
  | _ => false
def Pl.vis (p : Pl) (x : Str) : Bool := isVis (p.sc.names.lookup x)
def Pl.gl (p : Pl) (x : Str) : Bool := isGl (p.sc.names.lookup x)
def Pl.tg (p : Pl) (x : Str) : Bool := isLoc (p.sc.names.lookup x) && match p.own with
  | none => true
  | some s => isLoc (s.names.lookup x)
def slot (N : List Str) (x : Str) : Option Nat := if x ∈ N then some (N.idxOf x) else none
def dbg (x : Str) : Bool := x == ("__debug__" : Str) || x == ("__classdict__" : Str)
def biAll : List (Bi × Nat) := [(.len, 1), (.all, 1), (.any, 1), (.sum, 1), (.minl, 1), (.min2, 2), (.max2, 2), (.sorted, 1), (.tup, 1), (.lst, 1), (.dct, 1), (.int, 1), (.str, 1), (.repr, 1)]
def biOf (x : Str) (n : Nat) : Option Bi := (biAll.find? fun p => bn p.1 == x && p.2 == n).map (·.1)
def bltNames : List Str := ["len", "all", "any", "sum", "min", "max", "sorted", "tuple", "list", "dict", "int", "str", "repr", "bool", "isinstance", "range", "enumerate", "zip"]
def mtAll : List Mt := [.append, .extend, .join, .get]
def mtOf (x : Str) : Option Mt := mtAll.find? fun t => mtN t == x
def tyAll : List (Str × Ty) := [("int", .int), ("bool", .bool), ("str", .str), ("tuple", .tuple), ("list", .list), ("dict", .dict)]
def cTy (I : Info) (p : Pl) : Expr → Option Ty
  | .Name x _ => if p.gl x && !dbg x then match tyAll.lookup x with
      | some t => some t
      | none => match I.tab.lookup x with
        | some (.cls k) => some (.cls k)
        | _ => none
    else none
  | _ => none
def cTys (I : Info) (p : Pl) : List Expr → Option (List Ty)
  | [] => some []
  | e :: es => match cTy I p e, cTys I p es with
    | some t, some ts => some (t :: ts)
    | _, _ => none
def cTg (I : Info) (p : Pl) : Nat → Expr → Option Tg
  | 0, _ => none
  | n + 1, e => match e with
    | .Name x _ => if p.tg x then (slot I.N x).map .v else none
    | .Tuple [a, b] _ _ => match cTg I p n a, cTg I p n b with
      | some a', some b' => if noStar a && noStar b then some (.t2 a' b') else none
      | _, _ => none
    | .Tuple [a, b, c] _ _ => match cTg I p n a, cTg I p n b, cTg I p n c with
      | some a', some b', some c' => if noStar a && noStar b && noStar c then some (.t3 a' b' c') else none
      | _, _, _ => none
    | _ => none
def isTupE : Expr → Bool
  | .Tuple _ _ _ => true
  | _ => false
def notCall : Expr → Bool
  | .Call _ [] [] _ => false
  | _ => true
def notSlice : Expr → Bool
  | .Slice _ _ _ _ => false
  | _ => true
def notSet : Expr → Bool
  | .Set _ _ _ => false
  | _ => true
def isNoneE : Expr → Bool
  | .Constant .none _ _ => true
  | _ => false
def cAll (f : Expr → Option Ex) : List Expr → Option (List Ex)
  | [] => some []
  | e :: es => match f e, cAll f es with
    | some x, some xs => if noStar e then some (x :: xs) else none
    | _, _ => none
def ownOf (N : List Str) (sc : Scope) : List (Str × Nat) := sc.names.filterMap fun y => if isLoc (some y.2) then (slot N y.1).map fun i => (y.1, i) else none
/-- within a comprehension's block -/
def Pl.blk (p : Pl) (scope : Scope) : Pl := ⟨relS scope p.sc, some scope, p.calm⟩
def cmpPlain : CmpOp → Bool
  | .Is => false
  | .IsNot => false
  | _ => true
def cPart (f : Expr → Option Ex) : Option Expr → Option (List Ex)
  | none => some []
  | some e => match f e with
    | some x => some [x]
    | none => none
def tgIn (t : Tg) (own : List (Str × Nat)) : Bool := (tgSlots t).all fun i => (own.map (·.2)).contains i
/-- what may stand as a test -/
def tst : Nat → Expr → Bool
  | 0, _ => false
  | n + 1, e => match e with
    | .IfExp _ _ _ _ => false
    | .UnaryOp .Not a _ => tst n a
    | .BoolOp _ es _ => es.all (tst n)
    | _ => true
def cTst (f : Expr → Option Ex) : Expr → Option Ex := fun e => if tst 9 e then f e else none
section
variable (I : Info)
/-- what a loop walks; tp: the target is a tuple -/
def cIt (f : Expr → Option Ex) (p : Pl) (tp : Bool) (e : Expr) : Option Ex := match e with
  | .Call (.Name x _) as [] _ =>
    if x = "range" then (if p.gl x then match as, cAll f as with
      | [_], some xs => some (.rng xs)
      | [_, _], some xs => some (.rng xs)
      | _, _ => none else none)
    else if x = "enumerate" then (if p.gl x && tp then match as, cAll f as with
      | [_], some xs => some (.enm xs)
      | _, _ => none else none)
    else if x = "zip" then (if p.gl x && tp then match as, cAll f as with
      | [_, _], some xs => some (.zip xs)
      | _, _ => none else none)
    else f e
  | e => f e
def cConst : Const → Option Ex
  | .int i => some (.c (.int i))
  | .bool b => some (.c (.bool b))
  | .none => some (.c .none)
  | .str x => if PyData.strOk x && decide (x.length ≤ LINE) then some (.c (.str x)) else none
  | _ => none
def cName (p : Pl) (x : Str) : Option Ex := if dbg x then none else match slot I.N x with
  | some i => if p.vis x then some (.v i) else none
  | none => if p.gl x then match I.tab.lookup x with
      | some (.cst d) => some (.g x d)
      | some (.cd kvs) => some (.gd x kvs)
      | _ => none
    else none
def cUn (f : Expr → Option Ex) (op : UnaryOp) (a : Expr) : Option Ex := match op with
  | .Not => (f a).map .not
  | .USub => (f a).map .neg
  | _ => none
def cBool (f : Expr → Option Ex) (op : BoolOp) (es : List Expr) : Option Ex := match es, cAll f es with
  | _ :: _, some xs => some (match op with
    | .And => .and xs
    | .Or => .or xs)
  | _, _ => none
def cCmp (f : Expr → Option Ex) (a : Expr) (ops : List CmpOp) (bs : List Expr) : Option Ex := match ops, bs with
  | [.Is], [b] => if isNoneE b then (f a).map .isN else none
  | [.IsNot], [b] => if isNoneE b then (f a).map .notN else none
  | [op], [b] => if behindInMarks op b then none else match f a, f b with
      | some a, some b => some (.cmp op a b)
      | _, _ => none
  | [o1, o2], [b, c] => if lastMarks [o1, o2] [b, c] then none else match f a, f b, f c with
      | some a, some b, some c => some (.chn o1 o2 a b c)
      | _, _, _ => none
  | _, _ => none
def cSub (f : Expr → Option Ex) (a i : Expr) : Option Ex := match i with
  | .Slice lo hi none _ => match f a, cPart f lo, cPart f hi with
      | some a, some lo, some hi => some (.sl a lo hi)
      | _, _, _ => none
  | .Slice lo hi (some k) _ => match f a, cPart f lo, cPart f hi, f k with
      | some a, some lo, some hi, some k => some (.step a lo hi [k])
      | _, _, _, _ => none
  | i => match f a, f i with
      | some a, some i => some (.ix a i)
      | _, _ => none
def cIsi (f : Expr → Option Ex) (p : Pl) (as : List Expr) : Option Ex := match as with
  | [a, .Tuple ts _ _] => match f a, cTys I p ts with
    | some a', some ts => if noStar a && decide (ts.length ≤ LINE) then some (.isi a' ts) else none
    | _, _ => none
  | [a, t] => match f a, cTy I p t with
    | some a', some t' => if noStar a && noStar t then some (.isi a' [t']) else none
    | _, _ => none
  | _ => none
/-- a comprehension's parts: target, source, test -/
def cCl (f : Expr → Option Ex) (fb : Pl → Expr → Option Ex) (p : Pl) (gs : List Comprehension) (scope : Scope) : Option (Tg × Ex × List Ex) := match gs with
  | [⟨tg, iter, ifs, 0⟩] => if p.calm && notSet iter && blkC I.N p.sc scope (ownOf I.N scope) then
      match cTg I (p.blk scope) 4 tg, cIt f p (isTupE tg) iter, cAll (cTst (fb (p.blk scope))) ifs with
      | some t, some it, some co => if tgIn t (ownOf I.N scope) && decide (co.length ≤ 1) then some (t, it, co) else none
      | _, _, _ => none
    else none
  | _ => none
def ownS (scope : Scope) : List Nat := (ownOf I.N scope).map (·.2)
/-- what a second clause walks -/
def cIt2 (f : Expr → Option Ex) (p : Pl) (e : Expr) : Option Ex := match e with
  | .Call (.Name x _) as [] _ =>
    if x = "range" then (if p.gl x then match as, cAll f as with
      | [_], some xs => some (.rng xs)
      | _, _ => none else none)
    else f e
  | e => f e
def cLc2 (f : Expr → Option Ex) (fb : Pl → Expr → Option Ex) (p : Pl) (elt : Expr) (gs : List Comprehension) (scope : Scope) : Option Ex := match gs with
  | [⟨tg, iter, ifs, 0⟩, ⟨tg1, iter1, ifs1, 0⟩] => if p.calm && notSet iter && notSet iter1 && blkC I.N p.sc scope (ownOf I.N scope) then
      match cTg I (p.blk scope) 4 tg, cIt f p (isTupE tg) iter, cAll (cTst (fb (p.blk scope))) ifs, cTg I (p.blk scope) 4 tg1, cIt2 (fb (p.blk scope)) (p.blk scope) iter1, cAll (cTst (fb (p.blk scope))) ifs1, fb (p.blk scope) elt with
      | some t, some it, some co, some t1, some it1, some co1, some el => if tgIn t (ownOf I.N scope) && tgIn t1 (ownOf I.N scope) && decide (co.length ≤ 1) && decide (co1.length ≤ 1) then some (.lc2 el (ownS I scope) t it co (tgSlots t1) t1 it1 co1) else none
      | _, _, _, _, _, _, _ => none
    else none
  | _ => none
def cLc1 (f : Expr → Option Ex) (fb : Pl → Expr → Option Ex) (p : Pl) (elt : Expr) (gs : List Comprehension) (scope : Scope) : Option Ex := match cCl I f fb p gs scope, fb (p.blk scope) elt with
  | some (t, it, co), some el => some (.lc el (ownS I scope) t it co)
  | _, _ => none
def cLc (f : Expr → Option Ex) (fb : Pl → Expr → Option Ex) (p : Pl) (elt : Expr) (gs : List Comprehension) (scope : Scope) : Option Ex := if gs.length = 2 then cLc2 I f fb p elt gs scope else cLc1 I f fb p elt gs scope
def cDc (f : Expr → Option Ex) (fb : Pl → Expr → Option Ex) (p : Pl) (k elt : Expr) (gs : List Comprehension) (scope : Scope) : Option Ex := match cCl I f fb p gs scope, fb (p.blk scope) k, fb (p.blk scope) elt with
  | some (t, it, co), some k, some el => some (.dc k el (ownS I scope) t it co)
  | _, _, _ => none
def cCallN (f : Expr → Option Ex) (p : Pl) (x : Str) (as : List Expr) : Option Ex := match I.tab.lookup x with
  | some (.fn i np kw) => if as.length + kw.length = np ∧ 0 < as.length ∧ p.calm = true then (cAll f as).map fun xs => .call i (xs ++ kw.map .c) else none
  | some _ => none
  | none => if p.calm then match biOf x as.length, cAll f as with
      | some b, some xs => some (.bi b xs)
      | _, _ => none
    else none
def cCall (f : Expr → Option Ex) (fb : Pl → Expr → Option Ex) (p : Pl) (x : Str) (as : List Expr) : Option Ex :=
  if dbg x || !p.gl x then none else if x = "isinstance" then cIsi I f p as else match as with
    | [.SetComp elt gs scope _] => if x = "len" then (match cCl I f fb p gs scope, fb (p.blk scope) elt with
        | some (t, it, co), some el => some (.sclen el (ownS I scope) t it co)
        | _, _ => none) else none
    | as => cCallN I f p x as
def cMt (f : Expr → Option Ex) (o : Expr) (m : Str) (as : List Expr) (ap cp : Pos) : Option Ex :=
  if notCall o && decide (as.length < 30) && decide (0 < as.length) && ap.endLine == cp.line then (match mtOf m, f o, cAll f as with
    | some t, some o, some xs => some (.mt t o xs)
    | _, _, _ => none) else none
def cE : Nat → Pl → Expr → Option Ex
  | 0, _, _ => none
  | n + 1, p, e => match e with
    | .Constant c _ _ => cConst c
    | .Name x _ => cName I p x
    | .BinOp a op b _ => match cE n p a, cE n p b with
      | some a, some b => some (.bin op a b)
      | _, _ => none
    | .UnaryOp op a _ => cUn (cE n p) op a
    | .BoolOp op es _ => cBool (cE n p) op es
    | .Compare a ops bs _ => cCmp (cE n p) a ops bs
    | .IfExp c a b _ => match cTst (cE n p) c, cE n p a, cE n p b with
      | some c, some a, some b => some (.ite c a b)
      | _, _, _ => none
    | .Tuple es _ _ => if es.length ≤ LINE then (cAll (cE n p) es).map .tup else none
    | .List es _ => if es.length ≤ LINE then (cAll (cE n p) es).map .lst else none
    | .Dict [] [] _ => some .dnew
    | .Subscript a i _ => cSub (cE n p) a i
    | .Call (.Name x _) as [] _ => cCall I (cE n p) (cE n) p x as
    | .Call (.Attribute o m ap) as [] cp => cMt (cE n p) o m as ap cp
    | .ListComp elt gs scope _ => cLc I (cE n p) (cE n) p elt gs scope
    | .DictComp k elt gs scope _ => cDc I (cE n p) (cE n) p k elt gs scope
    | _ => none
end
end Lo
/-! a, b = x, y; a, b, c = x, y, z: with plain names, stored from the right. -/
namespace Lo
open PySem PySem.Spec PyProof.Rows L2
/-- not all is folded -/
def parOk (vs : List Expr) : Bool := !vs.all (foldedForSure 8) && !vs.all (constantsAlone 8)
theorem ss_two {x y : Str} {px py pt pt2 : Pos} {kt k2 : Nat} {a b : Expr} {env : Env} (hf : env.scope.kind = .function) (hx : env.scope.names.lookup x = some .local) (hy : env.scope.names.lookup y = some .local) (hl : (py.line == px.line) = true) (hxy : (x == y) = false)
    (na : noStar a = true) (nb : noStar b = true) (ho : parOk [a, b] = true) : swappedStores [.Tuple [.Name x px, .Name y py] kt pt] (.Tuple [a, b] k2 pt2) env = pure (some [x, y]) := by
  have h1 : (env.blockKind != .function) = false := by unfold Env.blockKind; rw [hf]; rfl
  have sa : (match a with | .Starred .. => true | _ => false) = false := by cases a <;> first | rfl | cases na
  have sb : (match b with | .Starred .. => true | _ => false) = false := by cases b <;> first | rfl | cases nb
  unfold parOk at ho
  simp only [Bool.and_eq_true, Bool.not_eq_true'] at ho
  unfold swappedStores
  have hl' : py.line = px.line := eq_of_beq hl
  have nx : ∀ e : Expr, noStar e = true → ¬ ((match e with | .Starred .. => true | _ => false) = true) := fun e h => by cases e <;> first | exact Bool.false_ne_true | cases h
  have ed : ([x, y] : List Str).eraseDups = [x, y] := by
    have hyx : (y == x) = false := by
      cases h : y == x with
      | false => rfl
      | true => rw [eq_of_beq h] at hxy; simp at hxy
    simp [List.eraseDups, List.eraseDupsBy, List.eraseDupsBy.loop, hxy, hyx]
  have fm : ([.Name x px, .Name y py] : List Expr).filterMap (fun e => match e with
    | .Name id pos => if env.kindOf id == some .local && pos.line == px.line then some id else none
    | _ => none) = [x, y] := by
    simp [List.filterMap_cons, Env.kindOf, hx, hy, hl']
  have fa : [a, b].all (foldedForSure 8) = false := by simpa using ho.1
  have ca : [a, b].all (constantsAlone 8) = false := by simpa using ho.2
  have an : ([a, b].any fun e => match e with | .Starred .. => true | _ => false) = false := by
    simp only [List.any_cons, List.any_nil, Bool.or_false, Bool.or_eq_false_iff]
    exact ⟨by have := nx a na; revert this; cases (match a with | .Starred .. => true | _ => false) <;> simp, by have := nx b nb; revert this; cases (match b with | .Starred .. => true | _ => false) <;> simp⟩
  show (do
    if !(true || false) || false || env.blockKind != .function then return none
    if [a, b].any (fun e => match e with | .Starred .. => true | _ => false) then return none
    let names := ([.Name x px, .Name y py] : List Expr).filterMap (fun e => match e with
      | .Name id pos => if env.kindOf id == some .local && pos.line == px.line then some id else none
      | _ => none)
    if names.length != 2 || names.eraseDups.length != names.length then return none
    if [a, b].all (foldedForSure 8) then return none
    if [a, b].all (constantsAlone 8) then unsupported "assign.tuple-of-constant-expressions:order-of-the-stores"
    return some names : Sem (Option (List Str))) = _
  rw [h1, an, fm, fa, ca]
  dsimp only
  rw [ed]
  rfl
theorem ss_three {x y z : Str} {px py pz pt pt2 : Pos} {kt k2 : Nat} {a b c : Expr} {env : Env} (hf : env.scope.kind = .function) (hx : env.scope.names.lookup x = some .local) (hy : env.scope.names.lookup y = some .local) (hz : env.scope.names.lookup z = some .local) (hl : (py.line == px.line) = true) (hl3 : (pz.line == px.line) = true)
    (hxy : (x == y) = false) (hxz : (x == z) = false) (hyz : (y == z) = false) (na : noStar a = true) (nb : noStar b = true) (nc : noStar c = true) (ho : parOk [a, b, c] = true) : swappedStores [.Tuple [.Name x px, .Name y py, .Name z pz] kt pt] (.Tuple [a, b, c] k2 pt2) env = pure (some [x, y, z]) := by
  have h1 : (env.blockKind != .function) = false := by unfold Env.blockKind; rw [hf]; rfl
  unfold parOk at ho
  simp only [Bool.and_eq_true, Bool.not_eq_true'] at ho
  unfold swappedStores
  have hl' : py.line = px.line := eq_of_beq hl
  have hl'' : pz.line = px.line := eq_of_beq hl3
  have nx : ∀ e : Expr, noStar e = true → ¬ ((match e with | .Starred .. => true | _ => false) = true) := fun e h => by cases e <;> first | exact Bool.false_ne_true | cases h
  have sym : ∀ u v : Str, (u == v) = false → (v == u) = false := fun u v h => by
    cases h' : v == u with
    | false => rfl
    | true => rw [eq_of_beq h'] at h; simp at h
  have ed : ([x, y, z] : List Str).eraseDups = [x, y, z] := by
    simp [List.eraseDups, List.eraseDupsBy, List.eraseDupsBy.loop, hxy, hxz, hyz, sym _ _ hxy, sym _ _ hxz, sym _ _ hyz]
  have fm : ([.Name x px, .Name y py, .Name z pz] : List Expr).filterMap (fun e => match e with
    | .Name id pos => if env.kindOf id == some .local && pos.line == px.line then some id else none
    | _ => none) = [x, y, z] := by
    simp [List.filterMap_cons, Env.kindOf, hx, hy, hz, hl', hl'']
  have fa : [a, b, c].all (foldedForSure 8) = false := by simpa using ho.1
  have ca : [a, b, c].all (constantsAlone 8) = false := by simpa using ho.2
  have an : ([a, b, c].any fun e => match e with | .Starred .. => true | _ => false) = false := by
    simp only [List.any_cons, List.any_nil, Bool.or_false, Bool.or_eq_false_iff]
    exact ⟨by have := nx a na; revert this; cases (match a with | .Starred .. => true | _ => false) <;> simp, by have := nx b nb; revert this; cases (match b with | .Starred .. => true | _ => false) <;> simp, by have := nx c nc; revert this; cases (match c with | .Starred .. => true | _ => false) <;> simp⟩
  show (do
    if !(false || true) || false || env.blockKind != .function then return none
    if [a, b, c].any (fun e => match e with | .Starred .. => true | _ => false) then return none
    let names := ([.Name x px, .Name y py, .Name z pz] : List Expr).filterMap (fun e => match e with
      | .Name id pos => if env.kindOf id == some .local && pos.line == px.line then some id else none
      | _ => none)
    if names.length != 3 || names.eraseDups.length != names.length then return none
    if [a, b, c].all (foldedForSure 8) then return none
    if [a, b, c].all (constantsAlone 8) then unsupported "assign.tuple-of-constant-expressions:order-of-the-stores"
    return some names : Sem (Option (List Str))) = _
  rw [h1, an, fm, fa, ca]
  dsimp only
  rw [ed]
  rfl
section
variable {Y : Cy}
/-- arguments first -/
theorem rd_expA {f : En → Mem → R (List W)} {k : List W → Mem → RS} {Q' : List V → Hp → Prop} {ρ : En} {σ : L2.St} {g g0 : Gm} {H H0 : Hp} {m : Mem} {D : Ends} (s : Sr Y.X.K Y.X.w g H m) (E : Er Y.X.K Y.X.w Y.sx g H ρ σ) (x0 : Ext g0 H0 g H) (h : PstS Y g0 H0 ((f ρ m).then ρ k) D)
    (c : ∀ a m1 b H1 g1, Sr Y.X.K Y.X.w g1 H1 m1 → Ext0 g H g1 H1 → RwA Y.X.K Y.X.w Y.sx g1 H H1 a b → Er Y.X.K Y.X.w Y.sx g1 H1 ρ σ → PstS Y g0 H0 (k a m1) D → Q' b H1) : rdA Y f σ H Q' := by
  refine ⟨ρ, m, g, s, E, ?_⟩
  cases q : f ρ m with
  | ok a m1 =>
    rw [q] at h
    exact fun b H1 g1 s1 e1 r => c a m1 b H1 g1 s1 e1 r (E.keep s e1.1) h
  | exc n m1 =>
    rw [q] at h
    exact fun d H1 g1 s1 e1 => h d σ H1 g1 s1 (x0.trans s e1.1) (E.keep s e1.1)
  | bad => rw [q] at h; exact h
theorem sns_par2 {i j : Nat} {x y : Str} {px py pt pt2 pos : Pos} {kt k2 : Nat} {a b : Expr} {fs : En → Mem → R (List W)} (hc : Y.X.calm = true) (hN : Y.X.N.Nodup) (hi : Y.X.N[i]? = some x) (hj : Y.X.N[j]? = some y) (hij : i ≠ j)
    (hx : Y.X.env.scope.names.lookup x = some .local) (hy : Y.X.env.scope.names.lookup y = some .local) (ha : PA Y.X [a, b] (rdA Y fs)) (hw : swappedStores [.Tuple [.Name x px, .Name y py] kt pt] (.Tuple [a, b] k2 pt2) Y.X.env = pure (some [x, y]))
    (hs : swapsWithSole [.Tuple [.Name x px, .Name y py] kt pt] (.Tuple [a, b] k2 pt2) pos.line Y.X.env = pure false) :
    PS Y.X (.Assign [.Tuple [.Name x px, .Name y py] kt pt] (.Tuple [a, b] k2 pt2) pos) (rdS Y fun ρ m => (fs ρ m).then ρ fun ws m => parE [i, j] ws ρ m) :=
  (ps_par hc hN hi hj hij hx hy ha hw hs).imp fun D σ H ⟨ρ, m, g, S, E, h⟩ => rd_expA S E Ext.refl h fun ws m1 vs H1 g1 s1 e1 r E1 h1 => by
    unfold parE at h1
    cases el : laidAll ws with
    | none => rw [el] at h1; exact h1.elim
    | some ds =>
      rw [el] at h1
      have rv := ice_laidAll r el
      dsimp only at h1
      by_cases hlen : ([i, j] : List Nat).length = ds.length
      · rw [if_pos hlen] at h1
        match ds, vs, rv, hlen, h1 with
        | [d1, d2], _, .cons r1 (.cons r2 .nil), _, h1 => exact ⟨_, _, rfl, h1.nx (ice_sr s1) (e1.1.ice fun _ z => z) ((E1.ice.set i (x := .d d1) r1).set j (x := .d d2) r2)⟩
      · rw [if_neg hlen] at h1; exact h1.elim
theorem sns_par3 {i j l : Nat} {x y z : Str} {px py pz pt pt2 pos : Pos} {kt k2 : Nat} {a b c : Expr} {fs : En → Mem → R (List W)} (hc : Y.X.calm = true) (hN : Y.X.N.Nodup) (hi : Y.X.N[i]? = some x) (hj : Y.X.N[j]? = some y) (hl : Y.X.N[l]? = some z) (hij : i ≠ j) (hil : i ≠ l) (hjl : j ≠ l)
    (hx : Y.X.env.scope.names.lookup x = some .local) (hy : Y.X.env.scope.names.lookup y = some .local) (hz : Y.X.env.scope.names.lookup z = some .local) (ha : PA Y.X [a, b, c] (rdA Y fs)) (hw : swappedStores [.Tuple [.Name x px, .Name y py, .Name z pz] kt pt] (.Tuple [a, b, c] k2 pt2) Y.X.env = pure (some [x, y, z]))
    (hs : swapsWithSole [.Tuple [.Name x px, .Name y py, .Name z pz] kt pt] (.Tuple [a, b, c] k2 pt2) pos.line Y.X.env = pure false) :
    PS Y.X (.Assign [.Tuple [.Name x px, .Name y py, .Name z pz] kt pt] (.Tuple [a, b, c] k2 pt2) pos) (rdS Y fun ρ m => (fs ρ m).then ρ fun ws m => parE [i, j, l] ws ρ m) :=
  (ps_par3 hc hN hi hj hl hij hil hjl hx hy hz ha hw hs).imp fun D σ H ⟨ρ, m, g, S, E, h⟩ => rd_expA S E Ext.refl h fun ws m1 vs H1 g1 s1 e1 r E1 h1 => by
    unfold parE at h1
    cases el : laidAll ws with
    | none => rw [el] at h1; exact h1.elim
    | some ds =>
      rw [el] at h1
      have rv := ice_laidAll r el
      dsimp only at h1
      by_cases hlen : ([i, j, l] : List Nat).length = ds.length
      · rw [if_pos hlen] at h1
        match ds, vs, rv, hlen, h1 with
        | [d1, d2, d3], _, .cons r1 (.cons r2 (.cons r3 .nil)), _, h1 => exact ⟨_, _, _, rfl, h1.nx (ice_sr s1) (e1.1.ice fun _ z => z) (((E1.ice.set i (x := .d d1) r1).set j (x := .d d2) r2).set l (x := .d d3) r3)⟩
      · rw [if_neg hlen] at h1; exact h1.elim
end
end Lo
/-! The compile function is right: expressions. -/
namespace Lo
open PySem PySem.Spec PyProof.Rows L2
structure Good (I : Info) (F : Cs) (p : Pl) (Y : Cy) : Prop where
  N : Y.X.N = I.N
  nd : I.N.Nodup
  sc : Y.X.env.scope = p.sc
  own : ∀ x, p.tg x = true → Y.X.fn x = true ∨ Y.X.env.scope.names.lookup x = some .local
  gd : Gd Y
  calm : p.calm = true → Y.X.calm = true
  csx : p.calm = true → Y.sx = none
  tk : Takes Y.X Y.Wx
  xok : XOk Y F.sub
  cst : ∀ x d, I.tab.lookup x = some (.cst d) → ∃ u v, Y.X.mg x = some u ∧ RelV v u ∧ ∀ H fz, Rp Y.X.K Y.X.w H fz d v
  cd : ∀ x kvs, I.tab.lookup x = some (.cd kvs) → ∃ a ks, Y.X.mg x = some (.ref a) ∧ WrD Y.X.K Y.X.w a ks ∧ ks.length ≤ LINE ∧ ∀ H fz, RpK Y.X.K Y.X.w H fz kvs ks
  cls : ∀ x k, I.tab.lookup x = some (.cls k) → Y.X.mg x = some (Y.cx k) ∧ IsC (Y.cx k)
  fns : ∀ x i np kw, I.tab.lookup x = some (.fn i np kw) → p.calm = true → ∃ k f fd ps ds dvs, Room k Y.X.A ∧ Y.X.mg x = some (.ref f) ∧ PySem.W.keepIn Y.X.K (.ref f) = true ∧ Binds Y.X.K fd ps ds ∧ Vals dvs ds ∧ (∀ H fz, RpA Y.X.K Y.X.w H fz kw dvs) ∧ FnG Y.X.prog Y.X.w Y.X.K Y.X.mg Y.X.base (L2.CX Y.X.prog Y.X.w) k f fd ps (spC Y.X.K Y.X.w Y.cx np (F.call i))
  blt : ∀ x ∈ bltNames, Y.X.mg x = none
theorem XOk.never {Y : Cy} {sub : Nat → List Nat → Option Bool} (h : Y.sx = none) : XOk Y sub := ⟨fun a c e => by rw [h] at e; cases e⟩
theorem takes_false {X : Cx} : Takes X (fun _ _ _ _ => False) := fun u s' ⟨_, _, _, _, _, _, _, _, _, _, _, _, _, _, _, _, w⟩ => w.elim
section
variable {I : Info} {F : Cs} {p : Pl} {Y : Cy}
theorem isLoc_iff {o : Option NameKind} : isLoc o = true ↔ o = some .local ∨ o = some .cell := by
  cases o with
  | none => exact ⟨fun h => absurd h Bool.false_ne_true, fun h => by rcases h with h | h <;> cases h⟩
  | some k => cases k <;> simp [isLoc]
theorem Good.loc (G : Good I F p Y) {x : Str} (h : p.tg x = true) : Loc Y.X.env.scope x := by
  unfold Pl.tg at h
  rw [Bool.and_eq_true] at h
  have := isLoc_iff.mp h.1
  rw [← G.sc] at this
  exact this
theorem Good.vis (G : Good I F p Y) {x : Str} (h : p.vis x = true) : Vis Y.X.env.scope x := by
  unfold Pl.vis at h
  rw [← G.sc] at h
  unfold Vis
  cases e : Y.X.env.scope.names.lookup x with
  | none => rw [e] at h; cases h
  | some k => rw [e] at h; cases k <;> first | (cases h; done) | simp
theorem Good.gl (G : Good I F p Y) {x : Str} (h : p.gl x = true) : Gl Y.X x := by
  unfold Pl.gl at h
  rw [← G.sc] at h
  show Y.X.env.scope.names.lookup x = some .globalImplicit
  cases e : Y.X.env.scope.names.lookup x with
  | none => rw [e] at h; cases h
  | some k => rw [e] at h; cases k <;> first | (cases h; done) | rfl
theorem Good.slot (G : Good I F p Y) {x : Str} {i : Nat} (h : slot I.N x = some i) : Y.X.N[i]? = some x := by
  unfold Lo.slot at h
  split at h
  · rename_i hm
    cases h
    rw [G.N, List.getElem?_eq_getElem (List.idxOf_lt_length_of_mem hm), List.getElem_idxOf]
  · cases h
theorem dbg_no {x : Str} (h : dbg x = false) : (x == ("__debug__" : Str)) = false ∧ (x == ("__classdict__" : Str)) = false := by
  unfold dbg at h
  rwa [Bool.or_eq_false_iff] at h
/-- within a block of a comprehension -/
theorem Good.blk (G : Good I F p Y) (hc : p.calm = true) (scope : Scope) (s : Shared) (H : Hp) (C : Addr) (cl : List (Str × Addr)) (fp : List Addr) : Good I F (p.blk scope) (Y.blk s H scope C cl fp) where
  N := G.N
  nd := G.nd
  sc := by
    show relS scope Y.X.env.scope = relS scope p.sc
    rw [G.sc]
  own := fun x h => by
    unfold Pl.tg Pl.blk at h
    dsimp only at h
    rw [Bool.and_eq_true] at h
    rcases isLoc_iff.mp h.2 with e | e
    · refine .inr ?_
      show (relS scope Y.X.env.scope).names.lookup x = some .local
      exact lookup_relS_keep (by decide) e
    · refine .inl ?_
      show (scope.names.lookup x == some .cell) = true
      rw [e]; rfl
  gd := ⟨G.gd.un, G.gd.gu, G.gd.sys, G.gd.nd⟩
  calm := G.calm
  csx := G.csx
  tk := takes_false
  xok := XOk.never (G.csx hc)
  cst := G.cst
  cd := G.cd
  cls := G.cls
  fns := G.fns
  blt := G.blt
/-- within a try -/
theorem Good.tr (G : Good I F p Y) (hc : p.calm = true) {pn : List (Addr × Obj)} {xe : Value → Shared → Prop} {W : WX} (tk : Takes (Y.X.tr pn xe) W) : Good I F p (Y.tr pn xe W) where
  N := G.N
  nd := G.nd
  sc := G.sc
  own := G.own
  gd := ⟨G.gd.un, G.gd.gu, G.gd.sys, G.gd.nd⟩
  calm := G.calm
  csx := G.csx
  tk := tk
  xok := XOk.never (G.csx hc)
  cst := G.cst
  cd := G.cd
  cls := G.cls
  fns := G.fns
  blt := G.blt
def Pl.suite (p : Pl) : Pl := ⟨p.sc, p.own, false⟩
theorem Good.suite (G : Good I F p Y) {a : Addr} {oe : Obj} {c : Nat} {pn : List (Addr × Obj)} (X : XOk (Y.suite a oe c pn) F.sub) : Good I F p.suite (Y.suite a oe c pn) where
  N := G.N
  nd := G.nd
  sc := G.sc
  own := G.own
  gd := ⟨G.gd.un, G.gd.gu, G.gd.sys, G.gd.nd⟩
  calm := fun h => absurd h Bool.false_ne_true
  csx := fun h => absurd h Bool.false_ne_true
  tk := takes_false
  xok := X
  cst := G.cst
  cd := G.cd
  cls := G.cls
  fns := fun _ _ _ _ _ h => absurd h Bool.false_ne_true
  blt := G.blt
end
/-- a compiled expression is right -/
structure SE (F : Cs) (Y : Cy) (e : Expr) (x : Ex) : Prop where
  pe : PE Y.X e (rdE Y (ev F x))
  ns : noStar e = true
section
variable {I : Info} {F : Cs} {p : Pl} {Y : Cy} {f : Expr → Option Ex}
theorem evs_nil : evs F [] = fun _ m => .ok [] m := by funext ρ m; simp only [evs]
theorem evs_cons (x : Ex) (xs : List Ex) : evs F (x :: xs) = consF (ev F x) (evs F xs) := by funext ρ m; simp only [evs, consF]
theorem cAll_cons {e : Expr} {es : List Expr} {xs : List Ex} (h : cAll f (e :: es) = some xs) : ∃ x ys, f e = some x ∧ cAll f es = some ys ∧ noStar e = true ∧ xs = x :: ys := by
  unfold cAll at h
  split at h
  · rename_i x ys h1 h2
    split at h
    · rename_i hn
      cases h
      exact ⟨x, ys, h1, h2, hn, rfl⟩
    · cases h
  · cases h
/-- several -/
theorem cAll_ok (hf : ∀ e x, f e = some x → SE F Y e x) : ∀ {es : List Expr} {xs : List Ex}, cAll f es = some xs → PA Y.X es (rdA Y (evs F xs)) ∧ es.all noStar = true ∧ es.length = xs.length
  | [], _, h => by
    cases h
    exact ⟨by rw [evs_nil]; exact sna_nil, rfl, rfl⟩
  | e :: es, _, h => by
    obtain ⟨x, ys, h1, h2, h3, rfl⟩ := cAll_cons h
    obtain ⟨a, b, c⟩ := cAll_ok hf h2
    refine ⟨by rw [evs_cons]; exact sna_cons (hf e x h1).pe a (star_cons h3), by rw [List.all_cons, h3, b]; rfl, by rw [List.length_cons, List.length_cons, c]⟩
theorem evs_len : ∀ {xs : List Ex} {ρ : En} {m : Mem} {ws : List W} {m' : Mem}, evs F xs ρ m = .ok ws m' → ws.length = xs.length
  | [], ρ, m, ws, m', h => by rw [evs_nil] at h; cases h; rfl
  | x :: xs, ρ, m, ws, m', h => by
    rw [evs_cons] at h
    unfold consF at h
    cases e1 : ev F x ρ m with
    | bad => rw [e1] at h; cases h
    | exc c m1 => rw [e1] at h; cases h
    | ok w m1 =>
      rw [e1] at h
      have h : R.bind (evs F xs ρ m1) (fun ws m => .ok (w :: ws) m) = .ok ws m' := h
      cases e2 : evs F xs ρ m1 with
      | bad => rw [e2] at h; cases h
      | exc c m1 => rw [e2] at h; cases h
      | ok ws1 m2 =>
        rw [e2] at h
        cases h
        rw [List.length_cons, List.length_cons, evs_len e2]
theorem cConst_ok {c : Const} {k : Nat} {pos : Pos} {x : Ex} (h : cConst c = some x) : SE F Y (.Constant c k pos) x := by
  refine ⟨?_, rfl⟩
  cases c with
  | none => cases h; exact snd_non.imp fun σ H Q h => by simp only [ev] at h; exact h
  | bool b => cases h; exact snd_bl.imp fun σ H Q h => by simp only [ev] at h; exact h
  | int i => cases h; exact snd_int.imp fun σ H Q h => by simp only [ev] at h; exact h
  | str s =>
    unfold cConst at h
    dsimp only at h
    split at h
    · rename_i hc
      rw [Bool.and_eq_true, decide_eq_true_eq] at hc
      cases h
      exact (snd_str ⟨hc.2, hc.1⟩).imp fun σ H Q h => by simp only [ev] at h; exact h
    · cases h
  | _ => cases h
theorem cName_ok (G : Good I F p Y) {x : Str} {pos : Pos} {e : Ex} (h : cName I p x = some e) : SE F Y (.Name x pos) e := by
  refine ⟨?_, rfl⟩
  unfold cName at h
  split at h
  · cases h
  · rename_i hd
    obtain ⟨d1, d2⟩ := dbg_no (by simpa using hd)
    split at h
    · rename_i i hs
      split at h
      · rename_i hv
        cases h
        exact snd_var F (G.slot hs) (G.vis hv) d1 d2
      · cases h
    · split at h
      · rename_i hg
        split at h
        · rename_i d ht
          cases h
          obtain ⟨u, v, h1, h2, h3⟩ := G.cst x d ht
          exact (pe_glob (G.gl hg) h1 h2 d1).imp fun σ H Q ⟨ρ, m, g, S, E, h⟩ => by
            simp only [ev] at h
            exact h.doneV S Ext0.refl (show Rv Y.X.K Y.X.w Y.sx g H (.d d) v from h3 H g.fz)
        · rename_i kvs ht
          cases h
          obtain ⟨a, ks, h1, h2, h3, h4⟩ := G.cd x kvs ht
          exact (pe_glob (v := .ref a) (G.gl hg) h1 rfl d1).imp fun σ H Q ⟨ρ, m, g, S, E, h⟩ => by
            simp only [ev] at h
            exact h.doneV S Ext0.refl (show Rv Y.X.K Y.X.w Y.sx g H (.rod kvs) (.ref a) from ⟨a, ks, rfl, h2, h3, h4 H g.fz⟩)
        · cases h
      · cases h
end
end Lo
/-! The compile function is right: the forms of expressions. -/
namespace Lo
open PySem PySem.Spec PyProof.Rows L2
section
variable {I : Info} {F : Cs} {p : Pl} {Y : Cy} {f : Expr → Option Ex}
/-- also as a test -/
def ST (F : Cs) (Y : Cy) (e : Expr) (x : Ex) : Prop := PT Y.X e (rdT Y (asT (ev F x)))
theorem ev_and1 (x : Ex) : ev F (.and [x]) = ev F x := by funext ρ m; simp only [ev, evAnd]
theorem ev_or1 (x : Ex) : ev F (.or [x]) = ev F x := by funext ρ m; simp only [ev, evOr]
theorem ev_and2 (x y : Ex) (xs : List Ex) : ev F (.and (x :: y :: xs)) = andF (ev F x) (ev F (.and (y :: xs))) := by
  funext ρ m
  simp only [ev]
  rw [evAnd]
  · rfl
  · simp
theorem ev_or2 (x y : Ex) (xs : List Ex) : ev F (.or (x :: y :: xs)) = orF (ev F x) (ev F (.or (y :: xs))) := by
  funext ρ m
  simp only [ev]
  rw [evOr]
  · rfl
  · simp
theorem and_ok (hf : ∀ e x, f e = some x → SE F Y e x) {pos : Pos} : ∀ {es : List Expr} {xs : List Ex}, es ≠ [] → cAll f es = some xs → PE Y.X (.BoolOp .And es pos) (rdE Y (ev F (.and xs)))
  | [], _, h, _ => absurd rfl h
  | [e], _, _, h => by
    obtain ⟨x, ys, h1, h2, h3, rfl⟩ := cAll_cons h
    cases h2
    rw [ev_and1]
    exact snd_one (hf e x h1).pe
  | e :: e2 :: es, _, _, h => by
    obtain ⟨x, ys, h1, h2, h3, rfl⟩ := cAll_cons h
    have ih := and_ok hf (pos := pos) (es := e2 :: es) (by simp) h2
    obtain ⟨y, zs, _, _, _, rfl⟩ := cAll_cons h2
    rw [ev_and2]
    exact snd_and (hf e x h1).pe ih
theorem or_ok (hf : ∀ e x, f e = some x → SE F Y e x) {pos : Pos} : ∀ {es : List Expr} {xs : List Ex}, es ≠ [] → cAll f es = some xs → PE Y.X (.BoolOp .Or es pos) (rdE Y (ev F (.or xs)))
  | [], _, h, _ => absurd rfl h
  | [e], _, _, h => by
    obtain ⟨x, ys, h1, h2, h3, rfl⟩ := cAll_cons h
    cases h2
    rw [ev_or1]
    exact snd_one (hf e x h1).pe
  | e :: e2 :: es, _, _, h => by
    obtain ⟨x, ys, h1, h2, h3, rfl⟩ := cAll_cons h
    have ih := or_ok hf (pos := pos) (es := e2 :: es) (by simp) h2
    obtain ⟨y, zs, _, _, _, rfl⟩ := cAll_cons h2
    rw [ev_or2]
    exact snd_or (hf e x h1).pe ih
theorem andT_ok {es0 : List Expr} (hf : ∀ e x, f e = some x → e ∈ es0 → ST F Y e x) {pos : Pos} : ∀ {es : List Expr} {xs : List Ex}, (∀ e ∈ es, e ∈ es0) → es ≠ [] → cAll f es = some xs → PW Y.X (.BoolOp .And es pos) (rdT Y (asT (ev F (.and xs))))
  | [], _, _, h, _ => absurd rfl h
  | [e], _, hm, _, h => by
    obtain ⟨x, ys, h1, h2, h3, rfl⟩ := cAll_cons h
    cases h2
    rw [ev_and1]
    exact snt_and1 (hf e x h1 (hm e List.mem_cons_self))
  | e :: e2 :: es, _, hm, _, h => by
    obtain ⟨x, ys, h1, h2, h3, rfl⟩ := cAll_cons h
    have ih := andT_ok hf (pos := pos) (es := e2 :: es) (fun a ha => hm a (List.mem_cons_of_mem _ ha)) (by simp) h2
    obtain ⟨y, zs, _, _, _, rfl⟩ := cAll_cons h2
    rw [ev_and2]
    exact snt_and (hf e x h1 (hm e List.mem_cons_self)) ih
theorem orT_ok {es0 : List Expr} (hf : ∀ e x, f e = some x → e ∈ es0 → ST F Y e x) {pos : Pos} : ∀ {es : List Expr} {xs : List Ex}, (∀ e ∈ es, e ∈ es0) → es ≠ [] → cAll f es = some xs → PW Y.X (.BoolOp .Or es pos) (rdT Y (asT (ev F (.or xs))))
  | [], _, _, h, _ => absurd rfl h
  | [e], _, hm, _, h => by
    obtain ⟨x, ys, h1, h2, h3, rfl⟩ := cAll_cons h
    cases h2
    rw [ev_or1]
    exact snt_or1 (hf e x h1 (hm e List.mem_cons_self))
  | e :: e2 :: es, _, hm, _, h => by
    obtain ⟨x, ys, h1, h2, h3, rfl⟩ := cAll_cons h
    have ih := orT_ok hf (pos := pos) (es := e2 :: es) (fun a ha => hm a (List.mem_cons_of_mem _ ha)) (by simp) h2
    obtain ⟨y, zs, _, _, _, rfl⟩ := cAll_cons h2
    rw [ev_or2]
    exact snt_or (hf e x h1 (hm e List.mem_cons_self)) ih
theorem ev_not (x : Ex) : ev F (.not x) = notF (ev F x) := by funext ρ m; simp only [ev, notF]
theorem ev_neg (x : Ex) : ev F (.neg x) = negF (ev F x) := by funext ρ m; simp only [ev, negF] <;> rfl
theorem cUn_ok (hf : ∀ e x, f e = some x → SE F Y e x) {op : UnaryOp} {a : Expr} {pos : Pos} {e : Ex} (h : cUn f op a = some e) : SE F Y (.UnaryOp op a pos) e := by
  refine ⟨?_, rfl⟩
  unfold cUn at h
  split at h
  · obtain ⟨x, h1, rfl⟩ := Option.map_eq_some_iff.mp h
    rw [ev_not]
    exact snd_not (hf a x h1).pe
  · obtain ⟨x, h1, rfl⟩ := Option.map_eq_some_iff.mp h
    rw [ev_neg]
    exact snd_neg (hf a x h1).pe
  · cases h
theorem cBool_ok (hf : ∀ e x, f e = some x → SE F Y e x) {op : BoolOp} {es : List Expr} {pos : Pos} {e : Ex} (h : cBool f op es = some e) : SE F Y (.BoolOp op es pos) e := by
  refine ⟨?_, rfl⟩
  unfold cBool at h
  split at h
  · rename_i a as xs _ h2
    cases op with
    | And => cases h; exact and_ok hf (by simp) h2
    | Or => cases h; exact or_ok hf (by simp) h2
  · cases h
theorem noneE {b : Expr} (h : isNoneE b = true) : ∃ j q, b = .Constant .none j q := by
  unfold isNoneE at h
  split at h
  · exact ⟨_, _, rfl⟩
  · cases h
theorem ev_isN (x : Ex) : ev F (.isN x) = fun ρ m => (ev F x ρ m).bind fun x m => .ok (.d (.bool (isNone x))) m := by funext ρ m; simp only [ev]
theorem ev_notN (x : Ex) : ev F (.notN x) = fun ρ m => (ev F x ρ m).bind fun x m => .ok (.d (.bool (!isNone x))) m := by funext ρ m; simp only [ev]
theorem ev_cmp (op : CmpOp) (x y : Ex) : ev F (.cmp op x y) = fun ρ m => (ev F x ρ m).bind fun x m => (ev F y ρ m).bind fun y m => .of m (okB (cmpW op x y m)) := by funext ρ m; simp only [ev]
theorem ev_chn (o1 o2 : CmpOp) (x y z : Ex) : ev F (.chn o1 o2 x y z) = chnF o1 o2 (ev F x) (ev F y) (ev F z) := by funext ρ m; simp only [ev, chnF] <;> rfl
/-- a comparison, as a value and as a test -/
theorem cCmp_ok (G : Good I F p Y) (hf : ∀ e x, f e = some x → SE F Y e x) {a : Expr} {ops : List CmpOp} {bs : List Expr} {pos : Pos} {e : Ex} (h : cCmp f a ops bs = some e) : SE F Y (.Compare a ops bs pos) e ∧ ST F Y (.Compare a ops bs pos) e := by
  have gd := G.gd
  have key : PE Y.X (.Compare a ops bs pos) (rdE Y (ev F e)) ∧ ST F Y (.Compare a ops bs pos) e := by
    unfold ST
    unfold cCmp at h
    split at h
    · split at h
      · rename_i b hb
        obtain ⟨x, h1, rfl⟩ := Option.map_eq_some_iff.mp h
        obtain ⟨j, q, rfl⟩ := noneE hb
        rw [ev_isN]
        exact ⟨snd_isN (hf a x h1).pe, snt_isN (hf a x h1).pe⟩
      · cases h
    · split at h
      · rename_i b hb
        obtain ⟨x, h1, rfl⟩ := Option.map_eq_some_iff.mp h
        obtain ⟨j, q, rfl⟩ := noneE hb
        rw [ev_notN]
        exact ⟨snd_notN (hf a x h1).pe, snt_notN (hf a x h1).pe⟩
      · cases h
    · split at h
      · cases h
      · rename_i hm
        split at h
        · rename_i x y h1 h2
          cases h
          rw [ev_cmp]
          exact ⟨snd_cmp gd (hf _ _ h1).pe (hf _ _ h2).pe (by simpa using hm), snt_cmp gd (hf _ _ h1).pe (hf _ _ h2).pe (by simpa using hm)⟩
        · cases h
    · split at h
      · cases h
      · rename_i hm
        split at h
        · rename_i x y z h1 h2 h3
          cases h
          rw [ev_chn]
          exact ⟨snd_chn gd (hf _ _ h1).pe (hf _ _ h2).pe (hf _ _ h3).pe (by simpa using hm), snt_chn gd (hf _ _ h1).pe (hf _ _ h2).pe (hf _ _ h3).pe (by simpa using hm)⟩
        · cases h
    · cases h
  exact ⟨⟨key.1, rfl⟩, key.2⟩
theorem ev_ix (x y : Ex) : ev F (.ix x y) = fun ρ m => (ev F x ρ m).bind fun x m => (ev F y ρ m).bind fun y m => .of m (ixW x y m) := by funext ρ m; simp only [ev]
theorem ev_sl (x : Ex) (lo hi : List Ex) : ev F (.sl x lo hi) = slF (ev F x) (partF (evs F lo)) (partF (evs F hi)) := by funext ρ m; simp only [ev, slF, partF]
theorem ev_step (x : Ex) (lo hi st : List Ex) : ev F (.step x lo hi st) = stepF (ev F x) (partF (evs F lo)) (partF (evs F hi)) (partF (evs F st)) := by funext ρ m; simp only [ev, stepF, partF]
theorem cPart_ok (hf : ∀ e x, f e = some x → SE F Y e x) {o : Option Expr} {xs : List Ex} (h : cPart f o = some xs) : PO Y.X o (rdO Y (partF (evs F xs))) := by
  cases o with
  | none => cases h; rw [evs_nil]; exact sno_none
  | some e =>
    unfold cPart at h
    dsimp only at h
    cases h1 : f e with
    | none => rw [h1] at h; cases h
    | some x => rw [h1] at h; cases h; rw [evs_cons, evs_nil]; exact sno_some (hf e x h1).pe
theorem plain_ix {b : Expr} (h : notSlice b = true) : PlainIx b := by
  intro o i
  cases b <;> first | rfl | (exact absurd h Bool.false_ne_true)
theorem cSub_ok (hf : ∀ e x, f e = some x → SE F Y e x) {a i : Expr} {pos : Pos} {e : Ex} (h : cSub f a i = some e) : SE F Y (.Subscript a i pos) e := by
  refine ⟨?_, rfl⟩
  unfold cSub at h
  split at h
  · split at h
    · rename_i x lo hi h1 h2 h3
      cases h
      rw [ev_sl]
      exact snd_sl (hf _ _ h1).pe (cPart_ok hf h2) (cPart_ok hf h3)
    · cases h
  · split at h
    · rename_i x lo hi k h1 h2 h3 h4
      cases h
      rw [ev_step]
      refine snd_step (hf _ _ h1).pe (cPart_ok hf h2) (cPart_ok hf h3) (cPart_ok hf (o := some _) ?_)
      unfold cPart
      dsimp only
      rw [h4]
    · cases h
  · rename_i n1 n2
    split at h
    · rename_i x y h1 h2
      cases h
      rw [ev_ix]
      refine snd_ix (hf _ _ h1).pe (hf _ _ h2).pe (plain_ix ?_)
      cases i with
      | Slice lo hi st q =>
        cases st with
        | none => exact absurd rfl (n1 _ _ _)
        | some k => exact absurd rfl (n2 _ _ _ _)
      | _ => rfl
    · cases h
theorem ev_tup (xs : List Ex) : ev F (.tup xs) = tupF (evs F xs) := by funext ρ m; simp only [ev, tupF]
theorem ev_lst (xs : List Ex) : ev F (.lst xs) = lstF (evs F xs) := by funext ρ m; simp only [ev, lstF]
theorem ev_bin (op : Operator) (x y : Ex) : ev F (.bin op x y) = fun ρ m => (ev F x ρ m).bind fun x m => (ev F y ρ m).bind fun y m => .of m (binW op x y m) := by funext ρ m; simp only [ev]
theorem ev_ite (c x y : Ex) : ev F (.ite c x y) = iteFn (ev F c) (ev F x) (ev F y) := by funext ρ m; simp only [ev, iteFn]
theorem ev_bi (b : Bi) (xs : List Ex) : ev F (.bi b xs) = biF b (evs F xs) := by funext ρ m; simp only [ev, biF]
theorem ev_mt (t : Mt) (o : Ex) (xs : List Ex) : ev F (.mt t o xs) = mtF t (ev F o) (evs F xs) := by funext ρ m; simp only [ev, mtF]
theorem ev_isi (x : Ex) (ts : List Ty) : ev F (.isi x ts) = isiF F.sub (ev F x) ts := by funext ρ m; simp only [ev, isiF]
theorem ev_call (i : Nat) (xs : List Ex) : ev F (.call i xs) = callF1 (F.call i) (evs F xs) := by funext ρ m; simp only [ev, callF1] <;> rfl
theorem snd_dnew {pos : Pos} : PE Y.X (.Dict [] [] pos) (rdE Y (ev F .dnew)) :=
  pe_dnewK.imp fun σ H Q ⟨ρ, m, g, S, E, h⟩ => by
    simp only [ev] at h
    exact fun p hp => h.newD S Ext0.refl .nil (Nat.zero_le _) p hp
end
end Lo
/-! The compile function is right: calls, comprehensions. -/
namespace Lo
open PySem PySem.Spec PyProof.Rows L2
section
variable {I : Info} {F : Cs} {p : Pl} {Y : Cy} {f : Expr → Option Ex}
/-! ### methods -/
theorem attr_plain {o : Expr} {m : Str} {env : Env} {w : Sem Value} (h : notCall o = true) : attributeBase o m env w = w := by
  cases o with
  | Call g as kws q =>
    cases as with
    | nil =>
      cases kws with
      | nil => exact absurd h Bool.false_ne_true
      | cons k r => cases g <;> rfl
    | cons a r => cases g <;> rfl
  | _ => rfl
theorem mtOf_some {m : Str} {t : Mt} (h : mtOf m = some t) : m = mtN t ∧ (t = .append ∨ t = .extend ∨ t = .join ∨ t = .get) := by
  unfold mtOf at h
  have h1 := List.find?_some h
  have h2 := List.mem_of_find?_eq_some h
  refine ⟨(eq_of_beq h1).symm, ?_⟩
  simpa [mtAll] using h2
theorem cMt_ok (hf : ∀ e x, f e = some x → SE F Y e x) {o : Expr} {m : Str} {as : List Expr} {ap cp : Pos} {e : Ex} (h : cMt f o m as ap cp = some e) : SE F Y (.Call (.Attribute o m ap) as [] cp) e := by
  refine ⟨?_, rfl⟩
  unfold cMt at h
  split at h
  · rename_i hc
    simp only [Bool.and_eq_true, decide_eq_true_eq] at hc
    obtain ⟨⟨⟨hc1, hc2⟩, hc3⟩, hc4⟩ := hc
    split at h
    · rename_i t o' xs h1 h2 h3
      cases h
      obtain ⟨rfl, ht⟩ := mtOf_some h1
      obtain ⟨ha, hn, _⟩ := cAll_ok hf h3
      rw [ev_mt]
      cases as with
      | nil => exact absurd hc3 (Nat.lt_irrefl _)
      | cons a as => exact snd_mt t ht (hf _ _ h2).pe ha (attr_plain hc1) hn hc2 hc4
    · cases h
  · cases h
/-! ### isinstance -/
theorem tyAll_in {x : Str} {t : Ty} (h : tyAll.lookup x = some t) : x ∈ bltNames ∧ isCls t = false ∧ x = tyStr t ∧ bootBuiltins x = some (.type (tyStr t)) := by
  have := PySem.mem_of_lookup h
  simp only [tyAll, List.mem_cons, List.not_mem_nil, or_false, Prod.mk.injEq] at this
  rcases this with ⟨rfl, rfl⟩ | ⟨rfl, rfl⟩ | ⟨rfl, rfl⟩ | ⟨rfl, rfl⟩ | ⟨rfl, rfl⟩ | ⟨rfl, rfl⟩ <;> exact ⟨by decide +kernel, rfl, rfl, by decide +kernel⟩
theorem tyVal_plain {t : Ty} (h : isCls t = false) : tyVal Y t = .type (tyStr t) := by cases t <;> first | rfl | cases h
theorem cTy_ok (G : Good I F p Y) {e : Expr} {t : Ty} (h : cTy I p e = some t) : TyE Y e t := by
  unfold cTy at h
  split at h
  · rename_i x pos
    split at h
    · rename_i hc
      rw [Bool.and_eq_true, Bool.not_eq_true'] at hc
      obtain ⟨hg, hd⟩ := hc
      obtain ⟨d1, _⟩ := dbg_no hd
      split at h
      · rename_i t' ht
        cases h
        obtain ⟨h1, h2, h3, h4⟩ := tyAll_in ht
        have hn : x ≠ "__name__" := fun e => by subst e; exact absurd h1 (by decide +kernel)
        refine ⟨?_, by rw [tyVal_plain h2]; exact .inr ⟨_, rfl⟩, rfl⟩
        rw [tyVal_plain h2]
        exact pe_bltn (v := .ty (tyStr t)) (G.gl hg) (G.blt x h1) h4 rfl hn d1
      · split at h
        · rename_i k hk
          cases h
          obtain ⟨h1, h2⟩ := G.cls x k hk
          refine ⟨pe_glob (G.gl hg) h1 ?_ d1, h2, rfl⟩
          rcases h2 with ⟨a, e⟩ | ⟨n, e⟩
          · show RelV (vOf (Y.cx k)) (Y.cx k); rw [e]; rfl
          · show RelV (vOf (Y.cx k)) (Y.cx k); rw [e]; rfl
        · cases h
    · cases h
  · cases h
theorem cTys_ok (G : Good I F p Y) : ∀ {es : List Expr} {ts : List Ty}, cTys I p es = some ts → TyEs Y es ts
  | [], _, h => by cases h; exact .nil
  | e :: es, _, h => by
    unfold cTys at h
    split at h
    · rename_i t ts h1 h2
      cases h
      exact .cons (cTy_ok G h1) (cTys_ok G h2)
    · cases h
theorem cIsi_ok (G : Good I F p Y) (hf : ∀ e x, f e = some x → SE F Y e x) {as : List Expr} {q pos : Pos} {e : Ex} (hg : p.gl "isinstance" = true) (h : cIsi I f p as = some e) : PE Y.X (.Call (.Name "isinstance" q) as [] pos) (rdE Y (ev F e)) := by
  have hm := G.blt "isinstance" (by decide +kernel)
  unfold cIsi at h
  split at h
  · split at h
    · rename_i a' ts h1 h2
      split at h
      · rename_i hc
        rw [Bool.and_eq_true, decide_eq_true_eq] at hc
        cases h
        rw [ev_isi]
        exact snd_isiT G.xok (G.gl hg) hm (hf _ _ h1).pe hc.1 (cTys_ok G h2) hc.2
      · cases h
    · cases h
  · split at h
    · rename_i a' t' h1 h2
      split at h
      · rename_i hc
        rw [Bool.and_eq_true] at hc
        cases h
        rw [ev_isi]
        exact snd_isi G.xok (G.gl hg) hm (hf _ _ h1).pe hc.1 (cTy_ok G h2)
      · cases h
    · cases h
  · cases h
/-! ### calls by name -/
theorem biOf_some {x : Str} {n : Nat} {b : Bi} (h : biOf x n = some b) : x = bn b ∧ 0 < n ∧ x ∈ bltNames := by
  unfold biOf at h
  obtain ⟨q, h1, rfl⟩ := Option.map_eq_some_iff.mp h
  have h2 := List.find?_some h1
  have h3 := List.mem_of_find?_eq_some h1
  rw [Bool.and_eq_true] at h2
  have e1 : x = bn q.1 := (eq_of_beq h2.1).symm
  have e2 : q.2 = n := eq_of_beq h2.2
  subst e1
  subst e2
  simp only [biAll, List.mem_cons, List.not_mem_nil, or_false] at h3
  rcases h3 with rfl | rfl | rfl | rfl | rfl | rfl | rfl | rfl | rfl | rfl | rfl | rfl | rfl | rfl <;> exact ⟨rfl, by decide, by decide +kernel⟩
theorem evs_more (kw : List PyData) : ∀ xs : List Ex, evs F (xs ++ kw.map .c) = moreF kw (evs F xs)
  | [] => by
    have h : ∀ (ds : List PyData) (ρ : En) (m : Mem), evs F (ds.map .c) ρ m = .ok (ds.map .d) m := fun ds ρ m => by
      induction ds with
      | nil => simp only [List.map_nil, evs]
      | cons d ds ih => simp only [List.map_cons, evs, ev, R.bind, ih]
    funext ρ m
    rw [List.nil_append, h]
    simp only [moreF, evs, R.bind, List.nil_append]
  | x :: xs => by
    have ih := evs_more kw xs
    funext ρ m
    rw [List.cons_append]
    simp only [evs, moreF, ih]
    cases ev F x ρ m with
    | ok w m1 =>
      simp only [R.bind, moreF]
      cases evs F xs ρ m1 <;> rfl
    | _ => rfl
theorem cCallN_ok (G : Good I F p Y) (hf : ∀ e x, f e = some x → SE F Y e x) {x : Str} {as : List Expr} {q pos : Pos} {e : Ex} (hg : p.gl x = true) (hd : dbg x = false) (h : cCallN I f p x as = some e) : PE Y.X (.Call (.Name x q) as [] pos) (rdE Y (ev F e)) := by
  obtain ⟨d1, _⟩ := dbg_no hd
  unfold cCallN at h
  split at h
  · rename_i i np kw ht
    split at h
    · rename_i hc
      obtain ⟨hl, h0, hc⟩ := hc
      obtain ⟨xs, h1, rfl⟩ := Option.map_eq_some_iff.mp h
      obtain ⟨ha, hn, hlen⟩ := cAll_ok hf h1
      obtain ⟨k, fa, fd, ps, ds, dvs, hr, hm, hk, hb, hV, hR, FG⟩ := G.fns x i np kw ht hc
      rw [ev_call, evs_more]
      cases as with
      | nil => rw [List.length_nil] at h0; omega
      | cons a as => exact snd_call (CX := L2.CX Y.X.prog Y.X.w) G.gd G.tk FG hr (G.gl hg) hm hk hb hV hR ha (fun ρ m ws m' hw => by rw [evs_len hw, ← hlen, hl]) d1 hn
    · cases h
  · cases h
  · split at h
    · rename_i hc
      split at h
      · rename_i b xs h1 h2
        cases h
        obtain ⟨rfl, h0, hb⟩ := biOf_some h1
        obtain ⟨ha, hn, hlen⟩ := cAll_ok hf h2
        rw [ev_bi]
        cases as with
        | nil => exact absurd h0 (Nat.lt_irrefl _)
        | cons a as => exact snd_bi G.gd (G.calm hc) b (G.gl hg) (G.blt _ hb) ha hn
      · cases h
    · cases h
/-! ### targets -/
theorem cTg_ok (G : Good I F p Y) (C : Y.X.calm = true) : ∀ {n : Nat} {e : Expr} {t : Tg}, cTg I p n e = some t → PG Y.X e (gD Y t) ∧ (isTupE e = true → PG Y.X e (gT Y t))
  | 0, _, _, h => by cases h
  | n + 1, e, t, h => by
    have hN : Y.X.N.Nodup := by rw [G.N]; exact G.nd
    unfold cTg at h
    split at h
    · rename_i x pos
      split at h
      · rename_i ht
        obtain ⟨i, h1, rfl⟩ := Option.map_eq_some_iff.mp h
        exact ⟨sng_name hN (G.slot h1) (G.loc ht) (G.own x ht), fun z => absurd z Bool.false_ne_true⟩
      · cases h
    · split at h
      · rename_i a' b' h1 h2
        split at h
        · rename_i hc
          rw [Bool.and_eq_true] at hc
          cases h
          have q := fun k pos => sng_tup2 (k := k) (pos := pos) C (cTg_ok G C h1).1 (cTg_ok G C h2).1 hc.1 hc.2
          exact ⟨gD_of_gT (q _ _), fun _ => q _ _⟩
        · cases h
      · cases h
    · split at h
      · rename_i a' b' c' h1 h2 h3
        split at h
        · rename_i hc
          rw [Bool.and_eq_true, Bool.and_eq_true] at hc
          cases h
          have q := fun k pos => sng_tup3 (k := k) (pos := pos) C (cTg_ok G C h1).1 (cTg_ok G C h2).1 (cTg_ok G C h3).1 hc.1.1 hc.1.2 hc.2
          exact ⟨gD_of_gT (q _ _), fun _ => q _ _⟩
        · cases h
      · cases h
    · cases h
theorem cTg_gX (G : Good I F p Y) (C : Y.X.calm = true) {n : Nat} {e : Expr} {t : Tg} (h : cTg I p n e = some t) : PG Y.X e (gX Y (isTupE e) t) := by
  obtain ⟨h1, h2⟩ := cTg_ok G C h
  unfold gX
  cases hp : isTupE e with
  | true => exact h2 hp
  | false => exact h1
/-! ### what a loop walks -/
theorem ev_rng (xs : List Ex) : ev F (.rng xs) = rngF (evs F xs) := by funext ρ m; simp only [ev, rngF]
theorem ev_enm (xs : List Ex) : ev F (.enm xs) = enmF (evs F xs) := by funext ρ m; simp only [ev, enmF] <;> rfl
theorem ev_zip (xs : List Ex) : ev F (.zip xs) = zipF (evs F xs) := by funext ρ m; simp only [ev, zipF] <;> rfl
theorem tup_of {tg : Expr} (h : isTupE tg = true) : ∃ es k q, tg = .Tuple es k q := by
  cases tg <;> first | exact ⟨_, _, _, rfl⟩ | cases h
theorem cIt_ok (G : Good I F p Y) (hf : ∀ e x, f e = some x → SE F Y e x) {tg e : Expr} {x : Ex} (h : cIt f p (isTupE tg) e = some x) : PI Y.X tg e (rdI Y (isTupE tg) (ev F x)) := by
  unfold cIt at h
  split at h
  · rename_i nm q as pos
    split at h
    · rename_i en
      subst en
      have hm := G.blt "range" (by decide +kernel)
      split at h
      · rename_i hg
        split at h
        · rename_i a xs h2
          cases h
          obtain ⟨ha, hn, hl⟩ := cAll_ok hf h2
          rw [ev_rng]
          rw [List.all_cons, Bool.and_eq_true] at hn
          exact sni_rng1 (G.gl hg) hm ha hn.1 fun ρ m ws m' hw => by rw [evs_len hw, ← hl]; rfl
        · rename_i a b xs h2
          cases h
          obtain ⟨ha, hn, hl⟩ := cAll_ok hf h2
          rw [ev_rng]
          rw [List.all_cons, List.all_cons, Bool.and_eq_true, Bool.and_eq_true] at hn
          exact sni_rng2 (G.gl hg) hm ha hn.1 hn.2.1 fun ρ m ws m' hw => by rw [evs_len hw, ← hl]; rfl
        · cases h
      · cases h
    · split at h
      · rename_i en
        subst en
        have hm := G.blt "enumerate" (by decide +kernel)
        split at h
        · rename_i hg
          rw [Bool.and_eq_true] at hg
          obtain ⟨es, k, tq, rfl⟩ := tup_of hg.2
          split at h
          · rename_i a xs h2
            cases h
            obtain ⟨ha, hn, hl⟩ := cAll_ok hf h2
            rw [ev_enm]
            rw [List.all_cons, Bool.and_eq_true] at hn
            exact sni_enm (G.gl hg.1) hm ha hn.1
          · cases h
        · cases h
      · split at h
        · rename_i en
          subst en
          have hm := G.blt "zip" (by decide +kernel)
          split at h
          · rename_i hg
            rw [Bool.and_eq_true] at hg
            obtain ⟨es, k, tq, rfl⟩ := tup_of hg.2
            split at h
            · rename_i a b xs h2
              cases h
              obtain ⟨ha, hn, hl⟩ := cAll_ok hf h2
              rw [ev_zip]
              rw [List.all_cons, List.all_cons, Bool.and_eq_true, Bool.and_eq_true] at hn
              exact sni_zip (G.gl hg.1) hm ha hn.1 hn.2.1
            · cases h
          · cases h
        · exact sni_val (hf _ _ h).pe
  · exact sni_val (hf _ _ h).pe
end
end Lo
/-! The compile function is right: comprehensions, all expressions. -/
namespace Lo
open PySem PySem.Spec PyProof.Rows L2
section
variable {I : Info} {F : Cs} {p : Pl} {Y : Cy} {f : Expr → Option Ex}
theorem ev_lc (el : Ex) (own : List Nat) (tg : Tg) (it : Ex) (co : List Ex) : ev F (.lc el own tg it co) = lcF (ev F it) (trAll F co) (ev F el) own tg := by funext ρ m; simp only [ev, lcF]; rfl
theorem ev_dc (k el : Ex) (own : List Nat) (tg : Tg) (it : Ex) (co : List Ex) : ev F (.dc k el own tg it co) = dcF (ev F it) (trAll F co) (ev F k) (ev F el) own tg := by funext ρ m; simp only [ev, dcF]; rfl
theorem ev_scl (el : Ex) (own : List Nat) (tg : Tg) (it : Ex) (co : List Ex) : ev F (.sclen el own tg it co) = sclF (ev F it) (trAll F co) (ev F el) own tg := by funext ρ m; simp only [ev, sclF]; rfl
theorem trAll_nil : trAll F [] = yesF := by funext ρ m; simp only [trAll, yesF]
theorem trAll_one (x : Ex) : trAll F [x] = asT (ev F x) := by
  funext ρ m
  simp only [trAll, asT]
  congr 1
  funext w m1
  cases truth m1 w with
  | none => rfl
  | some b => cases b <;> rfl
theorem notSet_ok {e : Expr} (h : notSet e = true) (env : Env) : ∀ x, foldedSetIterable e env x = pure x := by
  intro x
  cases e <;> first | rfl | (exact absurd h Bool.false_ne_true)
/-- a comprehension's tests -/
theorem cConds_ok (hs : ∀ e x, f e = some x → ST F Y e x) {es : List Expr} {xs : List Ex} (h : cAll f es = some xs) (hl : xs.length ≤ 1) : PTs Y.X es (rdT Y (trAll F xs)) := by
  cases es with
  | nil => cases h; rw [trAll_nil]; exact snts_nil
  | cons e es =>
    obtain ⟨x, ys, h1, h2, h3, rfl⟩ := cAll_cons h
    cases es with
    | nil => cases h2; rw [trAll_one]; exact snts_one (hs e x h1)
    | cons e2 es =>
      obtain ⟨y, zs, _, _, _, rfl⟩ := cAll_cons h2
      rw [List.length_cons, List.length_cons] at hl
      omega
theorem tgIn_ok {t : Tg} {own : List (Str × Nat)} (h : tgIn t own = true) : ∀ i ∈ tgSlots t, i ∈ own.map (·.2) := fun i hi => by
  unfold tgIn at h
  rw [List.all_eq_true] at h
  exact List.contains_iff_mem.mp (h i hi)
theorem cTst_ok {P : Prop} {e : Expr} {x : Ex} (hb : f e = some x → tst 9 e = true → P) (h : cTst f e = some x) : P := by
  unfold cTst at h
  split at h
  · rename_i ht
    exact hb h ht
  · cases h
structure Gen1 (I : Info) (F : Cs) (p : Pl) (Y : Cy) (tg iter : Expr) (ifs : List Expr) (scope : Scope) (t : Tg) (it : Ex) (co : List Ex) : Prop where
  C : Y.X.calm = true
  hN : Y.X.N.Nodup
  hi : PI Y.X tg iter (rdI Y (isTupE tg) (ev F it))
  ok : BlkOk Y.X.N Y.X.env.scope scope (ownOf I.N scope)
  hg : InBlk Y scope fun Y => PG Y.X tg (gX Y (isTupE tg) t)
  ht : InBlk Y scope fun Y => PTs Y.X ifs (rdT Y (trAll F co))
  ho : ∀ i ∈ tgSlots t, i ∈ (ownOf I.N scope).map (·.2)
  hs : ∀ x, foldedSetIterable iter Y.X.env x = pure x
theorem cCl_ok (G : Good I F p Y) (hf : ∀ e x, f e = some x → SE F Y e x) {fb : Pl → Expr → Option Ex} (hb : ∀ Y', Good I F (p.blk scope) Y' → ∀ e x, fb (p.blk scope) e = some x → tst 9 e = true → ST F Y' e x) {gs : List Comprehension} {t : Tg} {it : Ex} {co : List Ex} (h : cCl I f fb p gs scope = some (t, it, co)) :
    ∃ tg iter ifs, gs = [⟨tg, iter, ifs, 0⟩] ∧ p.calm = true ∧ Gen1 I F p Y tg iter ifs scope t it co := by
  unfold cCl at h
  split at h
  · rename_i tg iter ifs
    split at h
    · rename_i hc
      simp only [Bool.and_eq_true] at hc
      obtain ⟨⟨hc, hn⟩, hk⟩ := hc
      split at h
      · rename_i t' it' co' h1 h2 h3
        split at h
        · rename_i hd
          rw [Bool.and_eq_true, decide_eq_true_eq] at hd
          cases h
          refine ⟨tg, iter, ifs, rfl, hc, ⟨G.calm hc, by rw [G.N]; exact G.nd, cIt_ok G hf h2, ?_, fun s H C cl fp => cTg_gX (G.blk hc scope s H C cl fp) (G.calm hc) h1, fun s H C cl fp => cConds_ok (fun e x h => cTst_ok (fun h1 h2 => hb _ (G.blk hc scope s H C cl fp) e x h1 h2) h) h3 hd.2, tgIn_ok hd.1, notSet_ok hn _⟩⟩
          rw [G.N, G.sc]
          exact blkOk_by hk
        · cases h
      · cases h
    · cases h
  · cases h
theorem ev_lc2 (el : Ex) (own : List Nat) (tg : Tg) (it : Ex) (co : List Ex) (own1 : List Nat) (tg1 : Tg) (it1 : Ex) (co1 : List Ex) : ev F (.lc2 el own tg it co own1 tg1 it1 co1) = lc2F (ev F it) (trAll F co) (ev F it1) (trAll F co1) (ev F el) own tg own1 tg1 := by funext ρ m; simp only [ev, lc2F]; rfl
theorem cIt2_ok (G : Good I F p Y) (hf : ∀ e x, f e = some x → SE F Y e x) {tg e : Expr} {x : Ex} (h : cIt2 f p e = some x) : PI Y.X tg e (rdJ Y (ev F x)) := by
  unfold cIt2 at h
  split at h
  · rename_i nm q as pos
    split at h
    · rename_i en
      subst en
      have hm := G.blt "range" (by decide +kernel)
      split at h
      · rename_i hg
        split at h
        · rename_i a xs h2
          cases h
          obtain ⟨ha, hn, hl⟩ := cAll_ok hf h2
          rw [ev_rng]
          rw [List.all_cons, Bool.and_eq_true] at hn
          exact snj_rng1 (G.gl hg) hm ha hn.1 fun ρ m ws m' hw => by rw [evs_len hw, ← hl]; rfl
        · cases h
      · cases h
    · exact snj_val (hf _ _ h).pe
  · exact snj_val (hf _ _ h).pe
structure Gen2 (I : Info) (F : Cs) (p : Pl) (Y : Cy) (tg iter : Expr) (ifs : List Expr) (tg1 iter1 : Expr) (ifs1 : List Expr) (elt : Expr) (scope : Scope) (t : Tg) (it : Ex) (co : List Ex) (t1 : Tg) (it1 : Ex) (co1 : List Ex) (el : Ex) : Prop where
  C : Y.X.calm = true
  hN : Y.X.N.Nodup
  hi : PI Y.X tg iter (rdI Y (isTupE tg) (ev F it))
  ok : BlkOk Y.X.N Y.X.env.scope scope (ownOf I.N scope)
  hv : ∀ i ∈ tgSlots t1, i ∈ (ownOf I.N scope).map (·.2)
  hg : InBlk Y scope fun Y => PG Y.X tg (gX Y (isTupE tg) t)
  ht : InBlk Y scope fun Y => PTs Y.X ifs (rdT Y (trAll F co))
  hi1 : InBlk Y scope fun Y => PI Y.X tg1 iter1 (rdJ Y (ev F it1))
  hg1 : InBlk Y scope fun Y => PG Y.X tg1 (gX Y false t1)
  ht1 : InBlk Y scope fun Y => PTs Y.X ifs1 (rdT Y (trAll F co1))
  he : InBlk Y scope fun Y => PE Y.X elt (rdE Y (ev F el))
  ho : ∀ i ∈ tgSlots t, i ∈ (ownOf I.N scope).map (·.2)
  hs : ∀ x, foldedSetIterable iter Y.X.env x = pure x
  hs1 : ∀ env x, foldedSetIterable iter1 env x = pure x
theorem cLc2_ok (G : Good I F p Y) (hf : ∀ e x, f e = some x → SE F Y e x) {fb : Pl → Expr → Option Ex} {scope : Scope} (hb : ∀ Y', Good I F (p.blk scope) Y' → ∀ e x, fb (p.blk scope) e = some x → SE F Y' e x ∧ (tst 9 e = true → ST F Y' e x)) {elt : Expr} {gs : List Comprehension} {e : Ex} (h : cLc2 I f fb p elt gs scope = some e) :
    ∃ tg iter ifs tg1 iter1 ifs1 t it co t1 it1 co1 el, gs = [⟨tg, iter, ifs, 0⟩, ⟨tg1, iter1, ifs1, 0⟩] ∧ e = .lc2 el (ownS I scope) t it co (tgSlots t1) t1 it1 co1 ∧ Gen2 I F p Y tg iter ifs tg1 iter1 ifs1 elt scope t it co t1 it1 co1 el := by
  unfold cLc2 at h
  split at h
  · rename_i tg iter ifs tg1 iter1 ifs1
    split at h
    · rename_i hc
      simp only [Bool.and_eq_true] at hc
      obtain ⟨⟨⟨hc, hn⟩, hn1⟩, hk⟩ := hc
      split at h
      · rename_i t it co t1 it1 co1 el h1 h2 h3 h4 h5 h6 h7
        split at h
        · rename_i hd
          simp only [Bool.and_eq_true, decide_eq_true_eq] at hd
          obtain ⟨⟨⟨d1, d2⟩, d3⟩, d4⟩ := hd
          cases h
          refine ⟨tg, iter, ifs, tg1, iter1, ifs1, t, it, co, t1, it1, co1, el, rfl, rfl, ⟨G.calm hc, by rw [G.N]; exact G.nd, cIt_ok G hf h2, ?_, tgIn_ok d2, fun s H C cl fp => cTg_gX (G.blk hc scope s H C cl fp) (G.calm hc) h1,
            fun s H C cl fp => cConds_ok (fun e x h => cTst_ok (fun h1 h2 => (hb _ (G.blk hc scope s H C cl fp) e x h1).2 h2) h) h3 d3,
            fun s H C cl fp => cIt2_ok (G.blk hc scope s H C cl fp) (fun e x h => (hb _ (G.blk hc scope s H C cl fp) e x h).1) h5,
            fun s H C cl fp => (cTg_ok (G.blk hc scope s H C cl fp) (G.calm hc) h4).1,
            fun s H C cl fp => cConds_ok (fun e x h => cTst_ok (fun h1 h2 => (hb _ (G.blk hc scope s H C cl fp) e x h1).2 h2) h) h6 d4,
            fun s H C cl fp => (hb _ (G.blk hc scope s H C cl fp) _ _ h7).1.pe, tgIn_ok d1, notSet_ok hn _, fun env => notSet_ok hn1 env⟩⟩
          rw [G.N, G.sc]
          exact blkOk_by hk
        · cases h
      · cases h
    · cases h
  · cases h
theorem cLc1_ok (G : Good I F p Y) (hf : ∀ e x, f e = some x → SE F Y e x) {fb : Pl → Expr → Option Ex} {scope : Scope} (hb : ∀ Y', Good I F (p.blk scope) Y' → ∀ e x, fb (p.blk scope) e = some x → SE F Y' e x ∧ (tst 9 e = true → ST F Y' e x)) {elt : Expr} {gs : List Comprehension} {pos : Pos} {e : Ex} (h : cLc1 I f fb p elt gs scope = some e) :
    SE F Y (.ListComp elt gs scope pos) e := by
  refine ⟨?_, rfl⟩
  unfold cLc1 at h
  split at h
  · rename_i t it co el h1 h2
    cases h
    obtain ⟨tg, iter, ifs, rfl, hc, g⟩ := cCl_ok G hf (fun Y' G' e x h => (hb Y' G' e x h).2) h1
    rw [ev_lc]
    exact snd_lc g.C g.hN g.hi g.ok g.hg g.ht (fun s H C cl fp => (hb _ (G.blk hc scope s H C cl fp) _ _ h2).1.pe) g.ho g.hs
  · cases h
theorem cLc_ok (G : Good I F p Y) (hf : ∀ e x, f e = some x → SE F Y e x) {fb : Pl → Expr → Option Ex} {scope : Scope} (hb : ∀ Y', Good I F (p.blk scope) Y' → ∀ e x, fb (p.blk scope) e = some x → SE F Y' e x ∧ (tst 9 e = true → ST F Y' e x)) {elt : Expr} {gs : List Comprehension} {pos : Pos} {e : Ex} (h : cLc I f fb p elt gs scope = some e) :
    SE F Y (.ListComp elt gs scope pos) e := by
  unfold cLc at h
  split at h
  · obtain ⟨tg, iter, ifs, tg1, iter1, ifs1, t, it, co, t1, it1, co1, el, rfl, rfl, g⟩ := cLc2_ok G hf hb h
    refine ⟨?_, rfl⟩
    rw [ev_lc2]
    exact snd_lc2 g.C g.hN g.hi g.ok g.hv g.hg g.ht g.hi1 g.hg1 g.ht1 g.he g.ho (fun _ h => h) g.hs g.hs1
  · exact cLc1_ok G hf hb h
theorem cDc_ok (G : Good I F p Y) (hf : ∀ e x, f e = some x → SE F Y e x) {fb : Pl → Expr → Option Ex} {scope : Scope} (hb : ∀ Y', Good I F (p.blk scope) Y' → ∀ e x, fb (p.blk scope) e = some x → SE F Y' e x ∧ (tst 9 e = true → ST F Y' e x)) {k elt : Expr} {gs : List Comprehension} {pos : Pos} {e : Ex} (h : cDc I f fb p k elt gs scope = some e) :
    SE F Y (.DictComp k elt gs scope pos) e := by
  refine ⟨?_, rfl⟩
  unfold cDc at h
  split at h
  · rename_i t it co kx el h1 h2 h3
    cases h
    obtain ⟨tg, iter, ifs, rfl, hc, g⟩ := cCl_ok G hf (fun Y' G' e x h => (hb Y' G' e x h).2) h1
    rw [ev_dc]
    exact snd_dc g.C g.hN g.hi g.ok g.hg g.ht (fun s H C cl fp => (hb _ (G.blk hc scope s H C cl fp) _ _ h2).1.pe) (fun s H C cl fp => (hb _ (G.blk hc scope s H C cl fp) _ _ h3).1.pe) g.ho g.hs
  · cases h
theorem cCall_ok (G : Good I F p Y) (hf : ∀ e x, f e = some x → SE F Y e x) {fb : Pl → Expr → Option Ex} (hb : ∀ scope Y', Good I F (p.blk scope) Y' → ∀ e x, fb (p.blk scope) e = some x → SE F Y' e x ∧ (tst 9 e = true → ST F Y' e x)) {x : Str} {q pos : Pos} {as : List Expr} {e : Ex} (h : cCall I f fb p x as = some e) :
    SE F Y (.Call (.Name x q) as [] pos) e := by
  refine ⟨?_, rfl⟩
  unfold cCall at h
  split at h
  · cases h
  · rename_i hd
    simp only [Bool.not_eq_true, Bool.or_eq_false_iff, Bool.not_eq_false'] at hd
    obtain ⟨hd, hg⟩ := hd
    split at h
    · rename_i en
      subst en
      exact cIsi_ok G hf hg h
    · split at h
      · rename_i elt gs scope pos'
        split at h
        · rename_i en
          subst en
          split at h
          · rename_i t it co el h1 h2
            cases h
            obtain ⟨tg, iter, ifs, rfl, hc, g⟩ := cCl_ok G hf (fun Y' G' e x h => (hb _ Y' G' e x h).2) h1
            rw [ev_scl]
            exact snd_scl g.C g.hN (G.gl hg) (G.blt "len" (by decide +kernel)) g.hi g.ok g.hg g.ht (fun s H C cl fp => (hb _ _ (G.blk hc scope s H C cl fp) _ _ h2).1.pe) g.ho g.hs
          · cases h
        · cases h
      · exact cCallN_ok G hf hg hd h
theorem pe_ifE {c a b : Expr} {pos : Pos} {e x y : Ex} (h1 : ST F Y c e) (h2 : SE F Y a x) (h3 : SE F Y b y) : SE F Y (.IfExp c a b pos) (.ite e x y) :=
  ⟨by rw [ev_ite]; exact snd_ite h1 h2.pe h3.pe, rfl⟩
theorem plainE {e : Expr} {x : Ex} (s : SE F Y e x) (he : ∀ whole, isTrue e Y.X.env whole = (do let v ← whole; standAt e.pos; holding [v] (truthy v))) : SE F Y e x ∧ ∀ k, tst k e = true → ST F Y e x := ⟨s, fun _ _ => pt_plain s.pe he⟩
/-- all expressions -/
theorem cE_ok : ∀ (n : Nat) (p : Pl) (Y : Cy), Good I F p Y → ∀ e x, cE I n p e = some x → SE F Y e x ∧ ∀ k, tst k e = true → ST F Y e x := by
  intro n
  induction n with
  | zero => intro p Y G e x h; cases h
  | succ n ih =>
    intro p Y G e x h
    have hf : ∀ e x, cE I n p e = some x → SE F Y e x := fun e x h => (ih p Y G e x h).1
    have ht : ∀ e x, cE I n p e = some x → ∀ k, tst k e = true → ST F Y e x := fun e x h => (ih p Y G e x h).2
    have hb : ∀ scope Y', Good I F (p.blk scope) Y' → ∀ e x, cE I n (p.blk scope) e = some x → SE F Y' e x ∧ (tst 9 e = true → ST F Y' e x) := fun scope Y' G' e x h => ⟨(ih _ Y' G' e x h).1, (ih _ Y' G' e x h).2 9⟩
    unfold cE at h
    split at h
    · exact plainE (cConst_ok h) fun _ => rfl
    · exact plainE (cName_ok G h) fun _ => rfl
    · split at h
      · rename_i h1 h2
        cases h
        exact plainE ⟨by rw [ev_bin]; exact snd_bin (hf _ _ h1).pe (hf _ _ h2).pe, rfl⟩ fun _ => rfl
      · cases h
    · rename_i op a pos
      have s : SE F Y (.UnaryOp op a pos) x := cUn_ok hf h
      refine ⟨s, fun k hk => ?_⟩
      cases op with
      | Not =>
        cases k with
        | zero => cases hk
        | succ k =>
          obtain ⟨y, h1, rfl⟩ := Option.map_eq_some_iff.mp h
          unfold ST
          rw [ev_not]
          exact snt_not (ht _ _ h1 k hk)
      | USub => exact pt_plain s.pe fun _ => rfl
      | _ => cases h
    · rename_i op es pos
      have s : SE F Y (.BoolOp op es pos) x := cBool_ok hf h
      refine ⟨s, fun k hk => ?_⟩
      cases k with
      | zero => cases hk
      | succ k =>
        have hk : es.all (tst k) = true := hk
        have hm : ∀ e x, cE I n p e = some x → e ∈ es → ST F Y e x := fun e x h1 h2 => ht e x h1 k (List.all_eq_true.mp hk e h2)
        unfold cBool at h
        split at h
        · rename_i a as xs _ h2
          cases op with
          | And => cases h; exact (andT_ok hm (fun _ z => z) (by simp) h2).pt
          | Or => cases h; exact (orT_ok hm (fun _ z => z) (by simp) h2).pt
        · cases h
    · rename_i a ops bs pos
      have s := cCmp_ok (pos := pos) G hf h
      exact ⟨s.1, fun _ _ => s.2⟩
    · split at h
      · rename_i c a b pos c' a' b' h1 h2 h3
        cases h
        refine ⟨pe_ifE (cTst_ok (fun h1 h2 => ht _ _ h1 9 h2) h1) (hf _ _ h2) (hf _ _ h3), fun k hk => ?_⟩
        cases k <;> cases hk
      · cases h
    · split at h
      · rename_i es pos q hz
        obtain ⟨xs, h1, rfl⟩ := Option.map_eq_some_iff.mp h
        obtain ⟨ha, hn, hl⟩ := cAll_ok hf h1
        have s : SE F Y (.Tuple es pos q) (.tup xs) := ⟨by rw [ev_tup]; exact snd_tup ha fun ρ m ws m' hw => by rw [evs_len hw, ← hl]; exact hz, rfl⟩
        exact ⟨s, fun k _ => pt_plain s.pe fun _ => rfl⟩
      · cases h
    · split at h
      · rename_i es pos hz
        obtain ⟨xs, h1, rfl⟩ := Option.map_eq_some_iff.mp h
        obtain ⟨ha, hn, hl⟩ := cAll_ok hf h1
        have s : SE F Y (.List es pos) (.lst xs) := ⟨by rw [ev_lst]; exact snd_lst ha fun ρ m ws m' hw => by rw [evs_len hw, ← hl]; exact hz, rfl⟩
        exact ⟨s, fun k _ => pt_plain s.pe fun _ => rfl⟩
      · cases h
    · cases h
      exact plainE ⟨snd_dnew, rfl⟩ fun _ => rfl
    · exact plainE (cSub_ok hf h) fun _ => rfl
    · exact plainE (cCall_ok G hf hb h) fun _ => rfl
    · exact plainE (cMt_ok hf h) fun _ => rfl
    · exact plainE (cLc_ok G hf (hb _) h) fun _ => rfl
    · exact plainE (cDc_ok G hf (hb _) h) fun _ => rfl
    · cases h
end
end Lo
/-! Statements: what they become; that it is right. -/
namespace Lo
open PySem PySem.Spec PyProof.Rows L2
def cAllS (f : Stmt → Option Sm) : List Stmt → Option (List Sm)
  | [] => some []
  | s :: r => match f s, cAllS f r with
    | some x, some xs => some (x :: xs)
    | _, _ => none
def isFun (sc : Scope) : Bool := match sc.kind with
  | .function => true
  | _ => false
def locS (sc : Scope) (x : Str) : Bool := match sc.names.lookup x with
  | some .local => true
  | _ => false
section
variable (I : Info)
/-- a written tuple of constants -/
def foldT : Expr → Bool
  | .Tuple vs _ _ => vs.all (foldedForSure 8)
  | _ => false
def cPar (f : Expr → Option Ex) (p : Pl) (es : List Expr) (e : Expr) : Option Sm := match es, e with
  | [.Name x px, .Name y py], .Tuple [a, b] _ _ => if p.calm && isFun p.sc && locS p.sc x && locS p.sc y && (py.line == px.line) && !(x == y) && parOk [a, b] then match slot I.N x, slot I.N y, cAll f [a, b] with
      | some i, some j, some xs => if i ≠ j then some (.par [i, j] xs) else none
      | _, _, _ => none
    else none
  | [.Name x px, .Name y py, .Name z pz], .Tuple [a, b, c] _ _ => if p.calm && isFun p.sc && locS p.sc x && locS p.sc y && locS p.sc z && (py.line == px.line) && (pz.line == px.line) && !(x == y) && !(x == z) && !(y == z) && parOk [a, b, c] then match slot I.N x, slot I.N y, slot I.N z, cAll f [a, b, c] with
      | some i, some j, some l, some xs => if i ≠ j ∧ i ≠ l ∧ j ≠ l then some (.par [i, j, l] xs) else none
      | _, _, _, _ => none
    else none
  | _, _ => none
def cAsg (f : Expr → Option Ex) (p : Pl) (tg e : Expr) : Option Sm := match tg with
  | .Name y py => if p.tg y && isFun p.sc then match slot I.N y, f e with
      | some i, some x => if swB e y py p.sc then (if p.calm && locS p.sc y then some (.set i x (I.cells.contains i)) else none) else some (.set i x (I.cells.contains i))
      | _, _ => none
    else none
  | .Tuple [.Name a _, .Starred (.Name r _) _] _ _ => if p.tg a && p.tg r && p.calm && !isTupV e then match slot I.N a, slot I.N r, f e with
      | some i, some j, some x => some (.star1 i j x)
      | _, _, _ => none
    else none
  | .Tuple [.Starred (.Name r _) _, .Name a _] _ _ => if p.tg a && p.tg r && p.calm && !isTupV e then match slot I.N a, slot I.N r, f e with
      | some i, some j, some x => some (.star2 j i x)
      | _, _, _ => none
    else none
  | .Tuple es k q => if p.calm && !isTupV e then match cTg I p 4 (.Tuple es k q), f e with
      | some t, some x => some (.unp t x)
      | _, _ => none
    else if p.calm && foldT e then (match cTg I p 4 (.Tuple es k q), f e with
      | some t, some x => some (.unp t x)
      | _, _ => none)
    else cPar I f p es e
  | .Subscript o i _ => if notSlice i then match f e, f o, f i with
      | some e, some o, some i => some (.put o i e)
      | _, _, _ => none
    else none
  | _ => none
def cRaise (p : Pl) (e : Expr) : Option Sm := match e with
  | .Call (.Name x _) [.Constant (.str _) _ _] [] _ => if p.calm && p.gl x && !dbg x then match I.tab.lookup x with
      | some (.cls k) => if k < 100 then some (.raise k) else none
      | _ => none
    else none
  | _ => none
def cS (f : Pl → Expr → Option Ex) : Nat → Pl → Stmt → Option Sm
  | 0, _, _ => none
  | n + 1, p, s => match s with
    | .Assign [tg] e _ => cAsg I (f p) p tg e
    | .Expr e _ => if (compSc e).isNone then (f p e).map .ex else none
    | .Return (some e) _ => (f p e).map .ret
    | .Return none _ => some (.ret (.c .none))
    | .If c a b _ => match cTst (f p) c, cAllS (cS f n p) a, cAllS (cS f n p) b with
      | some c, some a, some b => some (.ite c a b)
      | _, _, _ => none
    | .For tg it body [] _ => if p.calm && notSet it then match cTg I p 4 tg, cIt (f p) p (isTupE tg) it, cAllS (cS f n p) body with
        | some t, some it, some body => some (.for t it body)
        | _, _, _ => none
      else none
    | .While c body [] _ => if p.calm then match cTst (f p) c, cAllS (cS f n p) body with
        | some c, some body => some (.while c body)
        | _, _ => none
      else none
    | .Raise (some e) none _ => cRaise I p e
    | .Try body [.ExceptHandler (some (.Name x _)) (some y) (b :: suite) _] [] [] _ => if p.calm && p.gl x && !dbg x && locS p.sc y then match I.tab.lookup x, slot I.N y, cAllS (cS f n p) body, cAllS (cS f n p.suite) (b :: suite) with
        | some (.cls k), some i, some body, some suite => some (.try body [k] i suite)
        | _, _, _, _ => none
      else none
    | .Pass _ => some .pass
    | _ => none
end
/-- a class that is raised with a text -/
def RzOk (K : PySem.W.Frag) (mg : Str → Option Value) (x : Str) (c : Value) : Prop := ∃ C bmB B newId initId, c = .ref C ∧ ExcBaseFacts B newId initId bmB ∧ PySem.W.excIn K C bmB newId = true ∧ mg x = some (.ref C) ∧ PySem.W.keepIn K (.ref C) = true ∧
  PySem.W.subIn K (.ref C) (.type "BaseException") = some true ∧ PySem.W.typeIn K (.ref C) = some (.type "type")
/-- where statements stand -/
structure GS (I : Info) (F : Cs) (p : Pl) (Y : Cy) : Prop where
  g : Good I F p Y
  po : p.calm = true → PassesOwn (model Y.X.prog Y.X.w) Y.X.A Y.X.env Y.X.xe
  st : Y.X.stack = Y.X.env :: Y.X.outer
  fr : Y.X.env.frame = some Y.X.env.locals
  co : ClsOk Y.X.K Y.cx F.sub
  rs : p.calm = true → ∀ x k, I.tab.lookup x = some (.cls k) → k < 100 → RzOk Y.X.K Y.X.mg x (Y.cx k)
section
variable {I : Info} {F : Cs} {p : Pl} {Y : Cy} {f : Expr → Option Ex}
theorem GS.suite (G : GS I F p Y) {a : Addr} {oe : Obj} {c : Nat} {pn : List (Addr × Obj)} (X : XOk (Y.suite a oe c pn) F.sub) : GS I F p.suite (Y.suite a oe c pn) where
  g := G.g.suite X
  po := fun h => absurd h Bool.false_ne_true
  st := G.st
  fr := G.fr
  co := G.co
  rs := fun h => absurd h Bool.false_ne_true
theorem GS.names (G : GS I F p Y) {x : Str} {k : Nat} (h : I.tab.lookup x = some (.cls k)) (hg : p.gl x = true) (hd : dbg x = false) : Names Y.X x (Y.cx k) := ⟨G.g.gl hg, (dbg_no hd).1, .inl (G.g.cls x k h).1⟩
theorem isFun_ok {sc : Scope} (h : isFun sc = true) : sc.kind = .function := by
  unfold isFun at h
  split at h
  · assumption
  · cases h
theorem locS_ok {sc : Scope} {x : Str} (h : locS sc x = true) : sc.names.lookup x = some .local := by
  unfold locS at h
  split at h
  · assumption
  · cases h
def isNm : Expr → Bool
  | .Name _ _ => true
  | _ => false
theorem sws_other {value t : Expr} {l : Nat} {env : Env} (h : isNm t = false) : swapsWithSole [t] value l env = pure false := sw_other fun y p e => by subst e; cases h
/-- a compiled statement is right -/
abbrev SS (F : Cs) (Y : Cy) (s : Stmt) (x : Sm) : Prop := PS Y.X s (rdS Y (ex F x))
abbrev SSs (F : Cs) (Y : Cy) (s : List Stmt) (x : List Sm) : Prop := PSs Y.X s (rdS Y (exs F x))
theorem exs_nil : exs F [] = fun ρ m => .ok .nx ρ m := by funext ρ m; simp only [exs]
theorem exs_cons (s : Sm) (r : List Sm) : exs F (s :: r) = fun ρ m => (ex F s ρ m).next (exs F r) := by funext ρ m; simp only [exs]
theorem cAllS_ok {fs : Stmt → Option Sm} (hf : ∀ s x, fs s = some x → SS F Y s x) : ∀ {ss : List Stmt} {xs : List Sm}, cAllS fs ss = some xs → SSs F Y ss xs
  | [], _, h => by cases h; unfold SSs; rw [exs_nil]; exact sns_nil
  | s :: ss, _, h => by
    unfold cAllS at h
    split at h
    · rename_i x xs h1 h2
      cases h
      unfold SSs
      rw [exs_cons]
      exact sns_cons (hf _ _ h1) (cAllS_ok hf h2)
    · cases h
/-- a comprehension that is stored where it is made -/
theorem cE_sw {n : Nat} (G : Good I F p Y) (C : p.calm = true) {e : Expr} {x : Ex} (h : cE I n p e = some x) {i : Nat} {y : Str} {py spos : Pos} (hy : Y.X.N[i]? = some y) (hyl : Y.X.env.scope.names.lookup y = some .local) (hk : Y.X.env.scope.kind = .function) (hsw : swB e y py Y.X.env.scope = true) :
    PS Y.X (.Assign [.Name y py] e spos) (tAsg (rdE Y (ev F x)) (gName i)) := by
  have hsw' : ∀ l, swapsWith e (some (.Name y py)) l Y.X.env = pure true := fun l => by rw [swB_ok hk, hsw]
  cases n with
  | zero => cases h
  | succ n =>
    have hf : ∀ e x, cE I n p e = some x → SE F Y e x := fun e x h => (cE_ok n p Y G e x h).1
    have hb : ∀ scope Y', Good I F (p.blk scope) Y' → ∀ e x, cE I n (p.blk scope) e = some x → SE F Y' e x ∧ (tst 9 e = true → ST F Y' e x) := fun scope Y' G' e x h => ⟨(cE_ok n _ Y' G' e x h).1, (cE_ok n _ Y' G' e x h).2 9⟩
    cases e with
    | ListComp elt gs scope pos =>
      have h : cLc I (cE I n p) (cE I n) p elt gs scope = some x := h
      unfold cLc at h
      split at h
      · obtain ⟨tg, iter, ifs, tg1, iter1, ifs1, t, it, co, t1, it1, co1, el, rfl, rfl, g⟩ := cLc2_ok G hf (hb scope) h
        rw [ev_lc2]
        exact sns_lc2 g.C g.hN hy hyl (hsw' _) g.hi g.ok g.hv g.hg g.ht g.hi1 g.hg1 g.ht1 g.he g.ho (fun _ h => h) g.hs g.hs1
      · unfold cLc1 at h
        split at h
        · rename_i t it co el h1 h2
          cases h
          obtain ⟨tg, iter, ifs, rfl, hc, g⟩ := cCl_ok G hf (fun Y' G' e x h => (hb _ Y' G' e x h).2) h1
          rw [ev_lc]
          exact sns_lc g.C g.hN hy hyl (hsw' _) g.hi g.ok g.hg g.ht (fun s H C cl fp => (hb _ _ (G.blk hc scope s H C cl fp) _ _ h2).1.pe) g.ho g.hs
        · cases h
    | DictComp k elt gs scope pos =>
      have h : cDc I (cE I n p) (cE I n) p k elt gs scope = some x := h
      unfold cDc at h
      split at h
      · rename_i t it co kx el h1 h2 h3
        cases h
        obtain ⟨tg, iter, ifs, rfl, hc, g⟩ := cCl_ok G hf (fun Y' G' e x h => (hb _ Y' G' e x h).2) h1
        rw [ev_dc]
        exact sns_dc g.C g.hN hy hyl (hsw' _) g.hi g.ok g.hg g.ht (fun s H C cl fp => (hb _ _ (G.blk hc scope s H C cl fp) _ _ h2).1.pe) (fun s H C cl fp => (hb _ _ (G.blk hc scope s H C cl fp) _ _ h3).1.pe) g.ho g.hs
      · cases h
    | SetComp elt gs scope pos => cases h
    | _ => cases hsw
theorem ss_fold {es : List Expr} {k : Nat} {q : Pos} {e : Expr} {env : Env} (h : foldT e = true) : swappedStores [.Tuple es k q] e env = pure none := by
  cases e with
  | Tuple vs k2 q2 =>
    have h : vs.all (foldedForSure 8) = true := h
    unfold swappedStores
    dsimp only
    split
    · rfl
    · split
      · rfl
      · split
        · rfl
        · first | rfl | (rw [h]; rfl) | (rw [if_pos h]; rfl)
  | _ => cases h
theorem cPar_ok {n : Nat} (G : GS I F p Y) {es : List Expr} {e : Expr} {k : Nat} {q pos : Pos} {x : Sm} (h : cPar I (cE I n p) p es e = some x) : SS F Y (.Assign [.Tuple es k q] e pos) x := by
  have hN : Y.X.N.Nodup := by rw [G.g.N]; exact G.g.nd
  have hf : ∀ e x, cE I n p e = some x → SE F Y e x := fun e x h => (cE_ok n p Y G.g e x h).1
  unfold cPar at h
  split at h
  · rename_i x px y py a b k2 pt2
    split at h
    · rename_i hc
      simp only [Bool.and_eq_true, Bool.not_eq_true'] at hc
      obtain ⟨⟨⟨⟨⟨⟨c1, c2⟩, c3⟩, c4⟩, c5⟩, c6⟩, c7⟩ := hc
      split at h
      · rename_i i j xs h1 h2 h3
        split at h
        · rename_i hij
          cases h
          obtain ⟨pa, ns, _⟩ := cAll_ok hf h3
          simp only [List.all_cons, List.all_nil, Bool.and_true, Bool.and_eq_true] at ns
          have hk : Y.X.env.scope.kind = .function := by rw [G.g.sc]; exact isFun_ok c2
          have hx : Y.X.env.scope.names.lookup x = some .local := by rw [G.g.sc]; exact locS_ok c3
          have hy : Y.X.env.scope.names.lookup y = some .local := by rw [G.g.sc]; exact locS_ok c4
          exact (sns_par2 (G.g.calm c1) hN (G.g.slot h1) (G.g.slot h2) hij hx hy pa (ss_two hk hx hy c5 c6 ns.1 ns.2 c7) (sws_other rfl)).imp fun D σ H h => by simp only [ex] at h; exact h
        · cases h
      · cases h
    · cases h
  · rename_i x px y py z pz a b c k2 pt2
    split at h
    · rename_i hc
      simp only [Bool.and_eq_true, Bool.not_eq_true'] at hc
      obtain ⟨⟨⟨⟨⟨⟨⟨⟨⟨⟨c1, c2⟩, c3⟩, c4⟩, c5⟩, c6⟩, c7⟩, c8⟩, c9⟩, c10⟩, c11⟩ := hc
      split at h
      · rename_i i j l xs h1 h2 h3 h4
        split at h
        · rename_i hij
          cases h
          obtain ⟨pa, ns, _⟩ := cAll_ok hf h4
          simp only [List.all_cons, List.all_nil, Bool.and_true, Bool.and_eq_true] at ns
          have hk : Y.X.env.scope.kind = .function := by rw [G.g.sc]; exact isFun_ok c2
          have hx : Y.X.env.scope.names.lookup x = some .local := by rw [G.g.sc]; exact locS_ok c3
          have hy : Y.X.env.scope.names.lookup y = some .local := by rw [G.g.sc]; exact locS_ok c4
          have hz : Y.X.env.scope.names.lookup z = some .local := by rw [G.g.sc]; exact locS_ok c5
          exact (sns_par3 (G.g.calm c1) hN (G.g.slot h1) (G.g.slot h2) (G.g.slot h3) hij.1 hij.2.1 hij.2.2 hx hy hz pa (ss_three hk hx hy hz c6 c7 c8 c9 c10 ns.1 ns.2.1 ns.2.2 c11) (sws_other rfl)).imp fun D σ H h => by simp only [ex] at h; exact h
        · cases h
      · cases h
    · cases h
  · cases h
theorem cAsg_ok {n : Nat} (G : GS I F p Y) {tg e : Expr} {pos : Pos} {x : Sm} (h : cAsg I (cE I n p) p tg e = some x) : SS F Y (.Assign [tg] e pos) x := by
  have hN : Y.X.N.Nodup := by rw [G.g.N]; exact G.g.nd
  have hf : ∀ e x, cE I n p e = some x → SE F Y e x := fun e x h => (cE_ok n p Y G.g e x h).1
  unfold cAsg at h
  split at h
  · rename_i y py
    split at h
    · rename_i hc
      rw [Bool.and_eq_true] at hc
      have hk : Y.X.env.scope.kind = .function := by rw [G.g.sc]; exact isFun_ok hc.2
      split at h
      · rename_i i xe h1 h2
        split at h
        · rename_i hsw
          split at h
          · rename_i hc2
            rw [Bool.and_eq_true] at hc2
            cases h
            rw [← G.g.sc] at hsw
            refine (cE_sw G.g hc2.1 h2 (G.g.slot h1) (by rw [G.g.sc]; exact locS_ok hc2.2) hk hsw).imp fun D σ H h => rd_setA (cell := I.cells.contains i) ?_
            (simp only [ex] at h; exact h)
          · cases h
        · rename_i hsw
          cases h
          refine (sns_set hN (G.g.slot h1) (G.g.loc hc.1) (G.g.own y hc.1) (hf _ _ h2).pe ?_ (cell := I.cells.contains i)).imp fun D σ H h => by simp only [ex] at h; exact h
          rw [swB_ok hk, G.g.sc, Bool.eq_false_iff.mpr hsw]
      · cases h
    · cases h
  · rename_i a pa r pr ps k q
    split at h
    · rename_i hc
      simp only [Bool.and_eq_true, Bool.not_eq_true'] at hc
      obtain ⟨⟨⟨ha, hr⟩, hc⟩, ht⟩ := hc
      split at h
      · rename_i i j xe h1 h2 h3
        cases h
        exact (sns_star1 (G.g.calm hc) hN (G.g.slot h1) (G.g.slot h2) (G.g.loc ha) (G.g.loc hr) (G.g.own _ ha) (G.g.own _ hr) (hf _ _ h3).pe (sws_other rfl) (ss_none ht)).imp fun D σ H h => by simp only [ex] at h; exact h
      · cases h
    · cases h
  · rename_i r pr ps a pa k q
    split at h
    · rename_i hc
      simp only [Bool.and_eq_true, Bool.not_eq_true'] at hc
      obtain ⟨⟨⟨ha, hr⟩, hc⟩, ht⟩ := hc
      split at h
      · rename_i i j xe h1 h2 h3
        cases h
        exact (sns_star2 (G.g.calm hc) hN (G.g.slot h1) (G.g.slot h2) (G.g.loc ha) (G.g.loc hr) (G.g.own _ ha) (G.g.own _ hr) (hf _ _ h3).pe (sws_other rfl) (ss_none ht)).imp fun D σ H h => by simp only [ex] at h; exact h
      · cases h
    · cases h
  · rename_i es k q _ _
    split at h
    · rename_i hc
      simp only [Bool.and_eq_true, Bool.not_eq_true'] at hc
      split at h
      · rename_i t xe h1 h2
        cases h
        exact (sns_unp (hf _ _ h2).pe (cTg_ok G.g (G.g.calm hc.1) h1).1 rfl (sws_other rfl) (ss_none hc.2)).imp fun D σ H h => by simp only [ex] at h; exact h
      · cases h
    · split at h
      · rename_i hc
        rw [Bool.and_eq_true] at hc
        split at h
        · rename_i t xe h1 h2
          cases h
          exact (sns_unp (hf _ _ h2).pe (cTg_ok G.g (G.g.calm hc.1) h1).1 rfl (sws_other rfl) (ss_fold hc.2)).imp fun D σ H h => by simp only [ex] at h; exact h
        · cases h
      · exact cPar_ok G h
  · rename_i o i q
    split at h
    · rename_i hc
      split at h
      · rename_i e' o' i' h1 h2 h3
        cases h
        exact (sns_put G.g.gd (hf _ _ h1).pe (hf _ _ h2).pe (hf _ _ h3).pe (fun a b c p e => by subst e; cases hc) (sws_other rfl) (ss_plain rfl)).imp fun D σ H h => by simp only [ex] at h; exact h
      · cases h
    · cases h
  · cases h
theorem cRaise_ok (G : GS I F p Y) {e : Expr} {pos : Pos} {x : Sm} (h : cRaise I p e = some x) : SS F Y (.Raise (some e) none pos) x := by
  unfold cRaise at h
  split at h
  · rename_i x p1 m j p2 pos2
    split at h
    · rename_i hc
      simp only [Bool.and_eq_true, Bool.not_eq_true'] at hc
      split at h
      · rename_i k hk
        split at h
        · rename_i hlt
          cases h
          obtain ⟨C, bmB, B, newId, initId, eC, h1, h2, h3, h4, h5, h6⟩ := G.rs hc.1.1 _ _ hk hlt
          exact (sns_raise (G.g.calm hc.1.1) G.g.tk eC (pmk_own h1 h2 h3 h4 (raises_own h5 h6) (G.g.gl hc.1.2) (dbg_no hc.2).1)).imp fun D σ H h => by simp only [ex] at h; exact h
        · cases h
      · cases h
    · cases h
  · cases h
theorem takes_imp {X : Cx} {W : WX} : Takes X W → Takes X W := fun h => h
/-- statements -/
theorem cS_ok {nf : Nat} : ∀ (n : Nat) (p : Pl) (Y : Cy), GS I F p Y → ∀ s x, cS I (cE I nf) n p s = some x → SS F Y s x := by
  intro n
  induction n with
  | zero => intro p Y G s x h; cases h
  | succ n ih =>
    intro p Y G s x h
    have hf : ∀ e x, cE I nf p e = some x → SE F Y e x := fun e x h => (cE_ok nf p Y G.g e x h).1
    have ht : ∀ {e x}, cTst (cE I nf p) e = some x → ST F Y e x := fun {e x} h => cTst_ok (fun h1 h2 => (cE_ok nf p Y G.g e x h1).2 9 h2) h
    have hs : ∀ s x, cS I (cE I nf) n p s = some x → SS F Y s x := ih p Y G
    unfold cS at h
    split at h
    · exact cAsg_ok G h
    · rename_i e pos
      split at h
      · rename_i hc
        obtain ⟨y, h1, rfl⟩ := Option.map_eq_some_iff.mp h
        exact (sns_ex (hf _ _ h1).pe (swB_none (Option.isNone_iff_eq_none.mp hc) _ _ _)).imp fun D σ H h => by simp only [ex] at h; exact h
      · cases h
    · rename_i e pos
      obtain ⟨y, h1, rfl⟩ := Option.map_eq_some_iff.mp h
      exact (sns_ret (hf _ _ h1).pe).imp fun D σ H h => by simp only [ex] at h; exact h
    · cases h
      exact sns_retN.imp fun D σ H h => by simp only [ex, ev] at h; exact h
    · split at h
      · rename_i c a b pos c' a' b' h1 h2 h3
        cases h
        exact (sns_if (ht h1) (cAllS_ok hs h2) (cAllS_ok hs h3)).imp fun D σ H h => by simp only [ex] at h; exact h
      · cases h
    · split at h
      · rename_i hc
        simp only [Bool.and_eq_true] at hc
        split at h
        · rename_i t it body h1 h2 h3
          cases h
          exact (sns_for (G.po hc.1) (G.g.calm hc.1) (cIt_ok G.g hf h2) (cTg_gX G.g (G.g.calm hc.1) h1) (cAllS_ok hs h3) (notSet_ok hc.2 _)).imp fun D σ H h => by simp only [ex] at h; exact h
        · cases h
      · cases h
    · split at h
      · rename_i hc
        split at h
        · rename_i c body h1 h2
          cases h
          exact (sns_while (n := F.turns) (G.po hc) (ht h1) (cAllS_ok hs h2)).imp fun D σ H h => by simp only [ex] at h; exact h
        · cases h
      · cases h
    · exact cRaise_ok G h
    · rename_i body x pn y b suite pos' pos
      split at h
      · rename_i hc
        simp only [Bool.and_eq_true, Bool.not_eq_true'] at hc
        obtain ⟨⟨⟨hc, hg⟩, hd⟩, hl⟩ := hc
        have hN : Y.X.N.Nodup := by rw [G.g.N]; exact G.g.nd
        split at h
        · rename_i k i body' suite' h1 h2 h3 h4
          cases h
          refine (sns_try (k := k) (i := i) (fb := exs F body') (fs := exs F suite') G.co (G.g.csx hc) G.st G.fr hN (G.g.slot h2) ?_ (G.names h1 hg hd) G.g.tk (fun W pn xe tk po => ?_) fun a oe c pn X => ?_).imp fun D σ H h => by simp only [ex] at h; exact h
          · show Y.X.env.scope.names.lookup y = some .local
            rw [G.g.sc]; exact locS_ok hl
          · refine cAllS_ok (ih p (Y.tr pn xe W) ⟨G.g.tr hc tk, fun _ => po, G.st, G.fr, G.co, G.rs⟩) h3
          · exact cAllS_ok (ih p.suite (Y.suite a oe c pn) (G.suite X)) h4
        · cases h
      · cases h
    · cases h
      exact sns_pass.imp fun D σ H h => by simp only [ex] at h; exact h
    · cases h
end
end Lo
/-! Defs: each does what its small form does. -/
namespace Lo
open PySem PySem.Spec PyProof.Rows L2
/-- a def of the text -/
structure Df where
  name : Str
  f : Addr
  st : Stmt
  N : List Str
  ps : List Str
  cells : List Nat
  fn : Fn
  kws : List (Str × PyData)
def Df.info (d : Df) (tab : List (Str × Ent)) : Info := ⟨d.N, tab, d.cells⟩
def Df.comp (d : Df) (tab : List (Str × Ent)) : Option (List Sm) := cAllS (cS (d.info tab) (cE (d.info tab) 60) 60 ⟨defScope d.st, none, true⟩) (defBody d.st)
structure Df.Ok (tab : List (Str × Ent)) (d : Df) : Prop where
  comp : d.comp tab = some d.fn.body
  np : d.fn.np = d.ps.length
  nl : d.fn.nl = d.N.length
  S : FnScope d.N d.ps (defScope d.st)
/-- what the top leaves -/
structure Top (K : PySem.W.Frag) (w : World) (mg : Str → Option Value) (cx : Nat → Value) (ds : List Df) (tab : List (Str × Ent)) (sub : Nat → List Nat → Option Bool) : Prop where
  fn : ∀ (i : Nat) (d : Df), ds[i]? = some d → ∃ fd ds dvs, Fun K d.name d.name d.st d.f fd ∧ Binds K fd d.ps ds ∧ Vals dvs ds ∧ (∀ H fz, RpA K w H fz (d.kws.map (·.2)) dvs) ∧ mg d.name = some (.ref d.f)
  fns : ∀ x i np kw, tab.lookup x = some (.fn i np kw) → ∃ d, ds[i]? = some d ∧ d.name = x ∧ d.ps.length = np ∧ d.kws.map (·.2) = kw
  cst : ∀ x d, tab.lookup x = some (.cst d) → ∃ u v, mg x = some u ∧ RelV v u ∧ ∀ H fz, Rp K w H fz d v
  cd : ∀ x kvs, tab.lookup x = some (.cd kvs) → ∃ a ks, mg x = some (.ref a) ∧ WrD K w a ks ∧ ks.length ≤ LINE ∧ ∀ H fz, RpK K w H fz kvs ks
  cls : ∀ x k, tab.lookup x = some (.cls k) → mg x = some (cx k) ∧ IsC (cx k)
  blt : ∀ x ∈ bltNames, mg x = none
  rs : ∀ x k, tab.lookup x = some (.cls k) → k < 100 → RzOk K mg x (cx k)
  co : ClsOk K cx sub
  sys : SysK K
section
variable {K : PySem.W.Frag} {w : World}
/-- the own cells are forgotten -/
theorem Sr.trunc {g g' : Gm} {H H' : Hp} {m m' : Mem} (s : Sr K w g H m) (s' : Sr K w g' H' m') (x : Ext g H g' H') : Sr K w ⟨g.mu, g'.fz, g.lk⟩ H' (m'.take m.length) := by
  obtain ⟨more, em, hn⟩ := x.mu
  have hlen : m.length ≤ m'.length := by rw [← s.len, ← s'.len, em, List.length_append]; omega
  have at' : ∀ {n : Nat} {a : Addr}, g.mu[n]? = some a → g'.mu[n]? = some a := fun {n a} h => by
    rw [em, List.getElem?_append_left (List.getElem?_eq_some_iff.mp h).1]; exact h
  have mt : ∀ {n : Nat} {o : MO}, (m'.take m.length)[n]? = some o → m'[n]? = some o := fun {n o} h => by
    rw [List.getElem?_take] at h
    split at h
    · exact h
    · cases h
  refine ⟨by show g.mu.length = _; rw [s.len, List.length_take]; omega, s.nd, fun a f hm => s'.dis a f (by rw [em]; exact List.mem_append_left _ hm), s'.fzs, fun n a o h1 h2 => s'.cell n a o (at' h1) (mt h2), fun n a o h1 h2 => ?_, s.lkm⟩
  have := s'.lkd n a o (at' h1) (mt h2)
  rw [x.lk] at this
  exact this
theorem Ext.trunc {g g' : Gm} {H H' : Hp} (x : Ext g H g' H') : Ext0 g H ⟨g.mu, g'.fz, g.lk⟩ H' :=
  ⟨⟨⟨[], by simp, fun _ h => absurd h (by simp)⟩, x.fz, x.nfz, x.keep, rfl⟩, rfl⟩
theorem Rw.trunc {sx : Option (Addr × Nat)} {g g' : Gm} {H H' : Hp} {m m' : Mem} {u : W} {v : V} (s : Sr K w g H m) (s' : Sr K w g' H' m') (x : Ext g H g' H') (r : Rw K w sx g' H' u v) (hr : ∀ n, u = .ref n → n < m.length) : Rw K w sx ⟨g.mu, g'.fz, g.lk⟩ H' u v := by
  obtain ⟨more, em, hn⟩ := x.mu
  have out : ∀ {a : Addr}, a ∉ g'.mu → a ∉ g.mu := fun {a} h hm => h (by rw [em]; exact List.mem_append_left _ hm)
  cases u with
  | new xs => obtain ⟨a, vs, h1, h2, h3, h4, h5, h6⟩ := r; exact ⟨a, vs, h1, h2, h3, h4, h5, out h6⟩
  | newd xs => obtain ⟨a, vs, h1, h2, h3, h4, h5, h6⟩ := r; exact ⟨a, vs, h1, h2, h3, h4, h5, out h6⟩
  | ref n =>
    obtain ⟨a, h1, h2⟩ := r
    refine ⟨a, ?_, h2⟩
    rw [em, List.getElem?_append_left (by rw [s.len]; exact hr n rfl)] at h1
    exact h1
  | d x => exact r
  | ro xs => exact r
  | rod xs => exact r
  | it xs => exact r.elim
  | exc c => exact r
/-- the end of a call -/
theorem finish_ok {cx : Nat → Value} {g g' : Gm} {H H' : Hp} {m m' : Mem} {u : W} {v : V} {Q : VK} {E : XK} (s : Sr K w g H m) (s' : Sr K w g' H' m') (x : Ext g H g' H') (r : Rw K w none g' H' u v) (f : Fresh H u v) (h : PstC K w cx g H (finish m.length u m') Q E) : Q v H' := by
  have S := s.trunc s' x
  have X := x.trunc
  obtain ⟨more, em, hn⟩ := x.mu
  have plain : (∀ n, u = .ref n → n < m.length) → PstC K w cx g H (.ok u (m'.take m.length)) Q E → Q v H' := fun hr h => h v H' _ S X (r.trunc s s' x hr) f
  cases u with
  | ref n =>
    unfold finish at h
    dsimp only at h
    split at h
    · rename_i hl
      exact plain (fun k e => by cases e; exact hl) h
    · rename_i hl
      obtain ⟨a, h1, rfl⟩ := r
      have hnm : a ∉ g.mu := fun hm => by
        obtain ⟨k, hk, e⟩ := List.mem_iff_getElem.mp hm
        have e1 : g'.mu[k]? = some a := by rw [em, List.getElem?_append_left hk, List.getElem?_eq_getElem hk, e]
        have lt : n < g'.mu.length := (List.getElem?_eq_some_iff.mp h1).1
        have hkn : k < n := by rw [s.len] at hk; omega
        have lk : k < g'.mu.length := (List.getElem?_eq_some_iff.mp e1).1
        have e3 := (List.getElem?_eq_some_iff.mp e1).2
        have e4 := (List.getElem?_eq_some_iff.mp h1).2
        exact List.pairwise_iff_getElem.mp s'.nd k n lk lt hkn (by rw [e3, e4])
      have hfr : H a = none := by
        refine hn a ?_
        have := List.mem_of_getElem? h1
        rw [em] at this
        exact (List.mem_append.mp this).resolve_left hnm
      have hfz : ¬ g'.fz a := fun f => s'.dis a f (List.mem_of_getElem? h1)
      split at h
      · rename_i xs e
        obtain ⟨vs, c1, c2, c3⟩ := s'.cell n a _ h1 e
        exact h (.ref a) H' _ S X ⟨a, vs, rfl, c1, c2, c3, hfz, hnm⟩ (fun b q => by cases q; exact hfr)
      · rename_i xs e
        obtain ⟨vs, c1, c2, c3⟩ := s'.cell n a _ h1 e
        exact h (.ref a) H' _ S X ⟨a, vs, rfl, c1, c2, c3, hfz, hnm⟩ (fun b q => by cases q; exact hfr)
      · exact h.elim
  | it xs => exact h.elim
  | exc c => exact h.elim
  | d x => exact plain (fun _ e => nomatch e) h
  | new x => exact plain (fun _ e => nomatch e) h
  | newd x => exact plain (fun _ e => nomatch e) h
  | ro x => exact plain (fun _ e => nomatch e) h
  | rod x => exact plain (fun _ e => nomatch e) h
/-- the names at the entry -/
theorem er_start {g : Gm} {H : Hp} {N : List Str} {xs : List W} {vs : List V} (r : RvL K w g H xs vs) : Er K w none g H (xs.map some ++ List.replicate (N.length - xs.length) none) (L2.start N vs) := by
  have hl := r.length
  refine ⟨by unfold L2.start; simp only [List.length_append, List.length_map, List.length_replicate, hl], fun i x q => ?_⟩
  by_cases hi : i < xs.length
  · rw [List.getElem?_append_left (by simpa using hi), List.getElem?_map] at q
    have ex : xs[i]? = some x := by
      cases e : xs[i]? with
      | none => rw [e] at q; cases q
      | some y => rw [e] at q; cases q; rfl
    have : ∀ {xs : List W} {vs : List V} {i : Nat} {x : W}, RvL K w g H xs vs → xs[i]? = some x → ∃ v, vs[i]? = some v ∧ Rv K w none g H x v := by
      intro xs vs i x r
      induction r generalizing i with
      | nil => intro e; simp at e
      | cons a b ih =>
        intro e
        cases i with
        | zero => simp at e; subst e; exact ⟨_, rfl, a⟩
        | succ i => exact ih (by simpa using e)
    obtain ⟨v, h1, h2⟩ := this r ex
    refine ⟨v, ?_, h2⟩
    unfold L2.start
    rw [List.getElem?_append_left (by rw [List.length_map, ← hl]; exact hi), List.getElem?_map, h1]
    rfl
  · rw [List.getElem?_append_right (by simpa using hi), List.getElem?_replicate] at q
    split at q <;> cases q
end
section
variable {P : Program} {w : World} {K : PySem.W.Frag} {mg : Str → Option Value} {base : Heap} {cx : Nat → Value} {ds : List Df} {tab : List (Str × Ent)} {sub : Nat → List Nat → Option Bool} {turns : Nat}
def pgOf (ds : List Df) (sub : Nat → List Nat → Option Bool) (turns : Nat) : Pg := ⟨ds.map (·.fn), sub, turns⟩
theorem fnG_all (T : Top K w mg cx ds tab sub) (ok : ∀ d ∈ ds, d.Ok tab) : ∀ (k i : Nat) (d : Df) (fd : FuncData), ds[i]? = some d → Fun K d.name d.name d.st d.f fd → FnG P w K mg base (L2.CX P w) k d.f fd d.ps (spC K w cx d.ps.length (callF (pgOf ds sub turns) k i)) := by
  intro k
  induction k with
  | zero =>
    intro i d fd hd F
    have no : ∀ vs H Q E, ¬ spC K w cx d.ps.length (callF (pgOf ds sub turns) 0 i) vs H Q E := fun vs H Q E h => by
      obtain ⟨_, g, m, xs, _, _, h⟩ := h
      have e : callF (pgOf ds sub turns) 0 i xs m = .bad := by unfold callF; rfl
      rw [e] at h
      exact h
    exact ⟨fun vs H Q E h => absurd h (no _ _ _ _), fun A outer s H args us vs Q E _ _ _ _ _ h => absurd h (no _ _ _ _)⟩
  | succ k ih =>
    intro i d fd hd F
    have D := ok d (List.mem_of_getElem? hd)
    obtain ⟨oc, od, kV, doc, pm, an, cdv, ct, osl, rfl, lk, hcd⟩ := F.ex
    refine fn_ofG lk hcd D.S (fun vs H Q E h => h.1) fun A outer s H vs Q E hr hG hsp => ?_
    obtain ⟨hl, g, m, xs, S, R, h⟩ := hsp
    generalize hX : cxOf (L2.CX P w) P w K mg base d.N d.name (defScope d.st) d.f cdv A outer s H E = X
    let Y : Cy := ⟨X, none, cx, fun cls dd _ H => E cls dd H⟩
    let F' : Cs := (pgOf ds sub turns).cs (callF (pgOf ds sub turns) k)
    have tk : Takes X (fun cls dd _ H => E cls dd H) := by
      subst hX
      exact takes_of rfl rfl rfl rfl
    have hun := hr.un
    have G : Good (d.info tab) F' ⟨defScope d.st, none, true⟩ Y := by
      subst hX
      exact {
        N := rfl
        nd := D.S.nd
        sc := rfl
        own := fun x h => .inl rfl
        gd := ⟨by show (A.deeper _).units + 200 < cLine; omega, hG, T.sys, D.S.nd⟩
        calm := fun _ => rfl
        csx := fun _ => rfl
        tk := tk
        xok := XOk.never rfl
        cst := T.cst
        cd := T.cd
        cls := T.cls
        fns := fun x j np kw hx _ => by
          obtain ⟨d', h1, h2, h3, h7⟩ := T.fns x j np kw hx
          obtain ⟨fd', ds', dvs', h4, h5, h8, h9, h6⟩ := T.fn j d' h1
          subst h2
          rw [h7] at h9
          refine ⟨k, d'.f, fd', d'.ps, ds', dvs', hr, h6, h4.kp, h5, h8, h9, ?_⟩
          rw [← h3]
          exact ih j d' fd' h1 h4
        blt := T.blt }
    have GS' : GS (d.info tab) F' ⟨defScope d.st, none, true⟩ Y := by
      refine ⟨G, fun _ => ?_, ?_, ?_, ?_, fun _ => ?_⟩
      · subst hX; exact passes_of rfl
      · subst hX; rfl
      · subst hX; rfl
      · subst hX; exact T.co
      · subst hX; exact T.rs
    have hb : SSs F' Y (defBody d.st) d.fn.body := cAllS_ok (fun s x h => cS_ok 60 _ Y GS' s x h) D.comp
    refine ⟨_, hb, xs.map some ++ List.replicate (d.N.length - xs.length) none, m, g, ?_, ?_, ?_⟩
    · subst hX; exact S
    · subst hX; exact er_start R
    · have e : callF (pgOf ds sub turns) (k + 1) i xs m = runF F' d.fn xs m := by
        unfold callF
        have : (pgOf ds sub turns).fns[i]? = some d.fn := by
          show (ds.map (·.fn))[i]? = _
          rw [List.getElem?_map, hd]; rfl
        rw [this]
      have el : xs.length = d.fn.np := by rw [D.np, R.length, hl]
      rw [e] at h
      unfold runF at h
      rw [if_pos el, D.nl] at h
      have en : d.N.length - d.fn.np = d.N.length - xs.length := by rw [el]
      rw [en] at h
      cases q : exs F' d.fn.body (xs.map some ++ List.replicate (d.N.length - xs.length) none) m with
      | bad => rw [q] at h; exact h.elim
      | exc c ρ1 m1 =>
        rw [q] at h
        intro _ σ' H' g' s' x' E'
        subst hX
        exact h () H' _ (S.trunc s' x') x'.trunc
      | ok fl ρ1 m1 =>
        rw [q] at h
        intro σ' H' g' s' x' E'
        subst hX
        cases fl with
        | nx => exact finish_ok S s' x' (u := .d .none) (v := .non) (show Rp K w H' g'.fz .none .non from .non) trivial h
        | ret u => exact fun v r f => finish_ok S s' x' r f h
        | brk => exact h.elim
        | cnt => exact h.elim
end
end Lo
/-! The end: a law by its small form. -/
namespace Lo
open PySem PySem.Spec PyProof.Rows L2
def noListO (o : Obj) : Bool := match o.cls with
  | .type n => !(n == "list")
  | _ => true
def noList (K : PySem.W.Frag) : Bool := K.all fun p => noListO p.2
theorem lookup_mem {α β : Type} [BEq α] [LawfulBEq α] {x : α} {y : β} : ∀ {l : List (α × β)}, l.lookup x = some y → (x, y) ∈ l
  | [], h => by cases h
  | (k, v) :: r, h => by
    rw [List.lookup_cons] at h
    split at h
    · rename_i hk
      cases h
      rw [eq_of_beq hk]
      exact List.mem_cons_self
    · exact List.mem_cons_of_mem _ (lookup_mem h)
theorem noList_no {K : PySem.W.Frag} (h : noList K = true) {a : Addr} {dt : Data} {sl : Array (Option Value)} {dd : Option Addr} : K.lookup a ≠ some ⟨.type "list", dd, dt, sl⟩ := fun e => by
  have hm := lookup_mem e
  have := List.all_eq_true.mp h _ hm
  exact absurd this (by show ¬ (!("list" == "list")) = true; decide)
/-- the heap in which the script alone is known -/
def hpOf (a : Addr) (o : Obj) (vs : List V) : Hp := fun b => if b = a then some (.frz o (.lst vs)) else none
theorem hpOf_at {a : Addr} {o : Obj} {vs : List V} : hpOf a o vs a = some (.frz o (.lst vs)) := if_pos rfl
theorem hpOf_ne {a b : Addr} {o : Obj} {vs : List V} (h : b ≠ a) : hpOf a o vs b = none := if_neg h
theorem hpOf_some {a b : Addr} {o : Obj} {vs : List V} {u : HO} (h : hpOf a o vs b = some u) : b = a ∧ u = .frz o (.lst vs) := by
  by_cases e : b = a
  · subst e; rw [hpOf_at] at h; cases h; exact ⟨rfl, rfl⟩
  · rw [hpOf_ne e] at h; cases h
theorem rpa_ints {K : PySem.W.Frag} {w : World} {H : Hp} {fz : Addr → Prop} : ∀ ns : List Int, RpA K w H fz (ns.map PyData.int) (ns.map V.int)
  | [] => .nil
  | n :: ns => .cons (.int n) (rpa_ints ns)
section
variable {P : Program} {w : World} {K : PySem.W.Frag} {mg mb : Str → Option Value} {cx : Nat → Value} {k : Nat} {fa a : Addr} {fd : FuncData} {x : Str} {s₁ : Shared} {vs : List Value} {ns : List Int} {call : List W → Mem → R W}
theorem law_run (KX : K.In s₁.heap) (NL : noList K = true) (hns : s₁.heap.Ns mainGlobals mg) (hb : s₁.heap.Ns builtinsNs mb) (hbb : ∀ x : Str, x ≠ "__name__" → mb x = bootBuiltins x) (hlim : s₁.heap.NoLimit) (hg : s₁.gens = #[])
    (ha : s₁.heap.get? a = some { cls := .type "list", data := .seq vs.toArray }) (hi : IntsAre vs ns) (hl : ns.length ≤ 63) (hr : Room k callerA)
    (F : ∀ base : Heap, K.In base → base.Ns mainGlobals mg → FnG P w K mg base (L2.CX P w) k fa fd [x] (spC K w cx 1 call)) (hbind : ∀ (s : Shared) (u : Value), K.In s.heap → BindsTo s fd ⟨[u], []⟩ [(x, u)])
    (hrun : call [.ro (ns.map PyData.int)] [] = .ok (.d (.bool true)) []) :
    codeAny (model P w) callerA (.call (.ref fa) ⟨[.ref a], []⟩) (fun r s' => r = .ok (.ret (.bool true)) ∧ OldK s₁.heap s'.heap ∧ s'.os = s₁.os ∧ AllBare s'.gens) s₁ := by
  have rv := vals_ints hi
  have hlv : (ns.map V.int).length ≤ sizeLine := by rw [List.length_map]; exact Nat.le_trans hl (by decide)
  generalize ho : ({ cls := .type "list", data := .seq vs.toArray } : Obj) = lo at ha
  let H : Hp := hpOf a lo (ns.map V.int)
  have notK : K.lookup a = none := by
    cases e : K.lookup a with
    | none => rfl
    | some o =>
      have e2 := KX a o e
      rw [ha] at e2
      cases e2
      subst ho
      exact absurd e (noList_no NL)
  have seen : ∀ {b : Addr} {o : Obj}, s₁.heap.get? b = some o → b ≠ a → (hidT s₁.heap H).get? b = some o := fun e n => hidT_get e (hpOf_ne n)
  have notD : ∀ {b : Addr} {o : Obj} {es : Array DictEntry} {ep : Nat}, s₁.heap.get? b = some o → o.data = .dict es ep → b ≠ a := fun {b o es ep} e d hba => by
    subst hba
    rw [ha] at e
    cases e
    subst ho
    have d' : Data.seq vs.toArray _ = Data.dict es ep := d
    cases d'
  have nsB : ∀ {b : Addr} {m : Str → Option Value}, s₁.heap.Ns b m → (hidT s₁.heap H).Ns b m := fun ⟨o, es, ep, e, d, r⟩ => ⟨o, es, ep, seen e (notD e d), d, r⟩
  have kB : K.In (hidT s₁.heap H) := fun b o e => seen (KX b o e) fun hba => by rw [hba, notK] at e; cases e
  obtain ⟨mc, hc1, hc2⟩ := hlim
  have e0 : Env0 P w K mg (hidT s₁.heap H) callerA [] s₁ H :=
    ⟨rfl, ⟨kB, nsB hns, ⟨mb, nsB hb, hbb⟩, mc, nsB hc1, hc2⟩, fun b o e => of_hidT e, Nat.le_of_eq (hidT_size _ _), trivial, fun b hb => absurd (show b ∈ ([] : List Addr) from hb) (by simp), fun b u e => by
      obtain ⟨rfl, rfl⟩ := hpOf_some e
      subst ho
      exact ⟨ha, hlv, vs, _, rv, ha⟩, .of_eq hg⟩
  have sp : spC K w cx 1 call [.ref a] H (fun v _ => v = .bl true) fun _ _ _ => False := by
    refine ⟨rfl, ⟨[], fun _ => False, fun _ => False⟩, [], [.ro (ns.map PyData.int)], ⟨rfl, List.nodup_nil, fun _ h => h.elim, fun _ h => h.elim, fun n b o h => by simp at h, fun n b o h => by simp at h, fun _ h => h.elim⟩, .cons ⟨a, lo, ns.map V.int, rfl, hpOf_at, by rw [List.length_map]; exact Nat.le_trans hl (by decide), rpa_ints ns⟩ .nil, ?_⟩
    rw [hrun]
    exact fun b H' g' _ _ r _ => Rp.boolI (show Rp K w H' g'.fz (.bool true) b from r)
  refine codeAny_mono ((F _ kB (nsB hns)).run callerA [] s₁ H ⟨[.ref a], []⟩ [.ref a] [.ref a] _ _ hr rfl e0 (hbind s₁ (.ref a) KX) (.cons rfl .nil) sp) fun r s' h => ?_
  match r, h with
  | .error e, ⟨_, _, _, _, _, _, _, _, _, _, _, _, h⟩ => exact h.elim
  | .ok .next, h => exact False.elim h
  | .ok .brk, h => exact False.elim h
  | .ok .cont, h => exact False.elim h
  | .ok (.ret u), ⟨v, H', os, bare, un, hok', r', q⟩ =>
    have q : v = .bl true := q
    subst q
    obtain rfl : u = Value.bool true := r'
    refine ⟨rfl, OldK.of_keep fun b o e => ?_, os, bare⟩
    by_cases hba : b = a
    · subst hba
      have z2 := un.frzs b lo _ hpOf_at
      obtain ⟨e2, _⟩ := hok' b _ z2
      rw [ha] at e
      cases e
      exact e2
    · exact un.keep b o e (hpOf_ne hba) (by intro z; exact absurd (show b ∈ ([] : List Addr) from z) (by simp)) (by simp)
end
theorem walk_lo {l : PySem.W.OpenLaw} {k turns : Nat} {q : Program} {loose : List Str} {XP : (Str → Option Value) → Heap → Prop} {YP : World → Heap → Prop} {d : DefRec} {K : Params → PySem.W.Frag} {cx : Nat → Value} {ds : List Df} {tab : List (Str × Ent)} {sub : Nat → List Nat → Option Bool} {il : Nat} {dl : Df} {x : Str}
    (hn : l.most = some 63) (hdf : d.params.defaults = []) (hr : Room k callerA)
    (hY : ∀ (w : World) (h : Heap), YP w h → (K w.params).In h) (NL : ∀ w : World, noList (K w.params) = true)
    (hil : ds[il]? = some dl) (hps : dl.ps = [x]) (hkw : dl.kws = []) (hnm : d.name = dl.name) (ok : ∀ dd ∈ ds, dd.Ok tab)
    (T : ∀ (w : World) (mg : Str → Option Value) (h : Heap), (K w.params).In h → h.Ns mainGlobals mg → Top (K w.params) w mg cx ds tab sub)
    (hrun : ∀ ns : List Int, ns.length ≤ 63 → (∀ z ∈ ns, Builtin.Int.intBits z ≤ 1048576) → callF (pgOf ds sub turns) k il [.ro (ns.map PyData.int)] [] = .ok (.d (.bool true)) []) :
    PySem.W.WalkO q loose XP YP l.row.toRowW d [] (fun f vs => PySem.call f vs) := by
  refine Att.attach_callB hn hdf fun w s₀ s₁ mg mb fa o pm cd doc a vs ns G Y ho hd hcd hmg hobj hints hlen hbits hg => ?_
  have KX := hY w _ Y
  have T := T w mg _ KX G.T.g
  obtain ⟨fd, us0, dvs0, hF, hB, hV0, hR0, hm⟩ := T.fn il dl hil
  have e0 : us0 = [] := by
    rw [hkw] at hR0
    have h := hR0 (fun _ => none) (fun _ => False)
    cases h
    cases hV0
    rfl
  subst e0
  rw [hnm, hm] at hmg
  cases hmg
  refine law_run (x := x) (fd := fd) (cx := cx) KX (NL w) G.T.g G.T.b G.T.builtins G.T.nolimit hg hobj hints hlen hr (fun base _ _ => ?_) (fun s u ks => ?_) (hrun ns hlen hbits)
  · have := fnG_all (P := l.prog) (base := base) (turns := turns) T ok k il dl fd hil hF
    rw [hps] at this
    exact this
  · have := hB s [u] ks (by rw [hps]; rfl)
    rw [hps] at this
    exact this
end Lo
/-! What the top leaves, looked up by the kernel. -/
namespace Lo
open PySem PySem.Spec PyProof.Rows L2
/-! ### constants -/
def allIs (f : PyData → Value → Bool) : List PyData → List Value → Bool
  | [], [] => true
  | d :: ds, u :: us => f d u && allIs f ds us
  | _, _ => false
def strIs (x : Str) : Bool := PyData.strOk x && decide (x.length ≤ LINE)
def valIs (K : PySem.W.Frag) : Nat → PyData → Value → Bool
  | 0, _, _ => false
  | n + 1, d, u => match d, u with
    | .none, .none => true
    | .bool b, .bool c => b == c
    | .int i, .int j _ => i == j
    | .str x, .str y _ => x == y && strIs x
    | .tuple ds, .ref a => (match K.lookup a with
        | some ⟨.type "tuple", none, .seq its _, _⟩ => decide (ds.length ≤ LINE) && allIs (valIs K n) ds its.toList
        | _ => false)
    | _, _ => false
theorem strIs_ok {x : Str} (h : strIs x = true) : sOk x := by
  unfold strIs at h
  rw [Bool.and_eq_true, decide_eq_true_eq] at h
  exact ⟨h.2, h.1⟩
section
variable {K : PySem.W.Frag}
theorem allIs_ok {f : PyData → Value → Bool} (hf : ∀ d u, f d u = true → ∃ v, RelV v u ∧ ∀ w H fz, Rp K w H fz d v) : ∀ {ds : List PyData} {us : List Value}, allIs f ds us = true → ∃ vs, Vals vs us ∧ ∀ w H fz, RpA K w H fz ds vs
  | [], [], _ => ⟨[], .nil, fun _ _ _ => .nil⟩
  | d :: ds, u :: us, h => by
    unfold allIs at h
    rw [Bool.and_eq_true] at h
    obtain ⟨v, h1, h2⟩ := hf d u h.1
    obtain ⟨vs, h3, h4⟩ := allIs_ok hf h.2
    exact ⟨v :: vs, .cons h1 h3, fun w H fz => .cons (h2 w H fz) (h4 w H fz)⟩
  | [], _ :: _, h => by cases h
  | _ :: _, [], h => by cases h
theorem allIs_len {f : PyData → Value → Bool} : ∀ {ds : List PyData} {us : List Value}, allIs f ds us = true → ds.length = us.length
  | [], [], _ => rfl
  | d :: ds, u :: us, h => by
    unfold allIs at h
    rw [Bool.and_eq_true] at h
    rw [List.length_cons, List.length_cons, allIs_len h.2]
  | [], _ :: _, h => by cases h
  | _ :: _, [], h => by cases h
theorem valIs_ok : ∀ (n : Nat) (d : PyData) (u : Value), valIs K n d u = true → ∃ v, RelV v u ∧ ∀ w H fz, Rp K w H fz d v := by
  intro n
  induction n with
  | zero => intro d u h; cases h
  | succ n ih =>
    intro d u h
    unfold valIs at h
    split at h
    · exact ⟨.non, rfl, fun _ _ _ => .non⟩
    · rw [beq_iff_eq] at h; subst h; exact ⟨.bl _, rfl, fun _ _ _ => .bl _⟩
    · rw [beq_iff_eq] at h; subst h; exact ⟨.int _, ⟨_, rfl⟩, fun _ _ _ => .int _⟩
    · rw [Bool.and_eq_true, beq_iff_eq] at h
      obtain ⟨rfl, h⟩ := h
      exact ⟨.str _, ⟨_, rfl⟩, fun _ _ _ => .str (strIs_ok h)⟩
    · split at h
      · rename_i hl
        rw [Bool.and_eq_true, decide_eq_true_eq] at h
        obtain ⟨vs, h1, h2⟩ := allIs_ok ih h.2
        have e1 : vs.length ≤ LINE := by rw [h1.length, ← allIs_len h.2]; exact h.1
        refine ⟨.ref _, rfl, fun w H fz => .tup (.inr ⟨_, _, _, hl, rfl, rfl, ?_, h1, rfl⟩) e1 (h2 w H fz)⟩
        rw [line_eq, ← Array.length_toList, ← h1.length]
        exact e1
      · cases h
    · cases h
/-! ### dicts -/
def dictIn (K : PySem.W.Frag) (x : Str) : List DictEntry := match PySem.W.nsIn K mainGlobals x with
  | some (some (.ref a)) => (match K.lookup a with
    | some ⟨_, _, .dict es _, _⟩ => es.toList
    | _ => [])
  | _ => []
def strOf (v : Value) : Str := match v with
  | .str x _ => x
  | _ => Str.empty
def hashOf (P : Params) (e : DictEntry) : Int := PyData.keyHash P (strOf e.key)
def kvIs (K : PySem.W.Frag) : List (PyData × PyData) → List DictEntry → Bool
  | [], [] => true
  | (.str x, d) :: r, e :: es => (match e.key with
      | .str y _ => x == y && strIs x
      | _ => false) && valIs K 9 d e.val && kvIs K r es
  | _, _ => false
def keysOf : List (PyData × PyData) → List Str
  | (.str x, _) :: r => x :: keysOf r
  | _ => []
def cdIs (K : PySem.W.Frag) (x : Str) (kvs : List (PyData × PyData)) : Bool := match PySem.W.nsIn K mainGlobals x with
  | some (some (.ref a)) => (match K.lookup a with
    | some ⟨.type "dict", none, .dict es _, sl⟩ => sl.toList.isEmpty && !(a == sysModules) && decide (kvs.length ≤ LINE) && kvIs K kvs es.toList && decide (keysOf kvs).Nodup
    | _ => false)
  | _ => false
theorem kvIs_ok : ∀ {kvs : List (PyData × PyData)} {es : List DictEntry}, kvIs K kvs es = true → ∃ ks : List (Key × V), Paired (fun (p : Key × V) (e : DictEntry) => keyIs p.1 e.key = true ∧ RelV p.2 e.val) ks es ∧ (∀ w H fz, RpK K w H fz kvs ks) ∧ ks.map (·.1) = (keysOf kvs).map Sum.inr ∧ ∀ e ∈ es, ∃ x t, e.key = .str x t
  | [], [], _ => ⟨[], .nil, fun _ _ _ => .nil, rfl, fun _ h => absurd h (by simp)⟩
  | (k, d) :: r, e :: es, h => by
    cases k with
    | str x =>
      unfold kvIs at h
      rw [Bool.and_eq_true, Bool.and_eq_true] at h
      obtain ⟨⟨h1, h2⟩, h3⟩ := h
      split at h1
      · rename_i y t ey
        rw [Bool.and_eq_true, beq_iff_eq] at h1
        obtain ⟨rfl, h1⟩ := h1
        obtain ⟨v, h4, h5⟩ := valIs_ok 9 d e.val h2
        obtain ⟨ks, a, b, c, f⟩ := kvIs_ok h3
        refine ⟨(.inr x, v) :: ks, .cons ⟨?_, h4⟩ a, fun w H fz => .cons (.str (strIs_ok h1)) (h5 w H fz) (b w H fz), ?_, fun e' he => ?_⟩
        · show Value.isStrOf x e.key = true
          rw [ey]
          show (x == x) = true
          exact beq_self_eq_true x
        · show Sum.inr x :: ks.map (·.1) = Sum.inr x :: (keysOf r).map Sum.inr
          rw [c]
        · rcases List.mem_cons.mp he with rfl | he
          · exact ⟨_, _, ey⟩
          · exact f e' he
      · cases h1
    | _ => cases h
  | [], _ :: _, h => by cases h
  | _ :: _, [], h => by rename_i a b; obtain ⟨k, d⟩ := a; cases k <;> cases h
theorem keysLit {P : Params} : ∀ {es : List DictEntry}, (∀ e ∈ es, ∃ x t, e.key = .str x t) → es.map (·.hash) = es.map (hashOf P) → PySem.W.KeysLit P es
  | [], _, _ => trivial
  | e :: es, h, q => by
    rw [List.map_cons, List.map_cons, List.cons.injEq] at q
    obtain ⟨x, t, ek⟩ := h e List.mem_cons_self
    refine ⟨⟨x, t, ek, ?_⟩, keysLit (fun e' he => h e' (List.mem_cons_of_mem _ he)) q.2⟩
    rw [q.1]
    unfold hashOf
    rw [ek]
    rfl
theorem cdIs_ok {w : World} {x : Str} {kvs : List (PyData × PyData)} (h : cdIs K x kvs = true) (hh : (dictIn K x).map (·.hash) = (dictIn K x).map (hashOf w.params)) : ∃ a ks, PySem.W.nsIn K mainGlobals x = some (some (.ref a)) ∧ WrD K w a ks ∧ ks.length ≤ LINE ∧ ∀ H fz, RpK K w H fz kvs ks := by
  unfold cdIs at h
  unfold dictIn at hh
  split at h
  · rename_i a en
    rw [en] at hh
    dsimp only at hh
    split at h
    · rename_i es n sl hl
      rw [hl] at hh
      dsimp only at hh
      simp only [Bool.and_eq_true, decide_eq_true_eq, Bool.not_eq_true'] at h
      obtain ⟨⟨⟨⟨h1, h2⟩, h3⟩, h4⟩, h5⟩ := h
      obtain ⟨ks, a1, a2, a3, a4⟩ := kvIs_ok h4
      have es0 : sl = #[] := by
        obtain ⟨l⟩ := sl
        have : l = [] := List.isEmpty_iff.mp h1
        subst this; rfl
      subst es0
      refine ⟨a, ks, en, ⟨es, n, hl, keysLit a4 hh, h2, a1, ?_⟩, ?_, fun H fz => a2 w H fz⟩
      · rw [a3]
        exact List.Pairwise.map _ (fun _ _ hne e => hne (Sum.inr.inj e)) h5
      · rw [← (a2 w (fun _ => none) (fun _ => False)).length]; exact h3
    · cases h
  · cases h
end
/-! ### defs -/
def fdAt (K : PySem.W.Frag) (f : Addr) : Option (FuncData × Value × Option Addr × Array (Option Value)) := match K.lookup f with
  | some ⟨oc, od, .func fd, sl⟩ => some (fd, oc, od, sl)
  | _ => none
def normF (d : Df) (r : FuncData × Value × Option Addr × Array (Option Value)) : FuncData × Value × Option Addr × Array (Option Value) :=
  (PySem.W.fnOf d.name d.name (defArgs d.st) (defBody d.st) (defScope d.st) .none r.1.kwdefaults r.1.doc r.1.pyModule r.1.annotations r.1.code r.1.closureTuple, r.2)
def chkKw (K : PySem.W.Frag) (kV : Value) (kws : List (Str × PyData)) : Bool := kws.isEmpty || (match kV with
  | .ref D => kws.all fun p => (match PySem.W.nsIn K D p.1 with
    | some (some u) => valIs K 9 p.2 u
    | _ => false)
  | _ => false)
def chkF (K : PySem.W.Frag) (d : Df) : Bool := (match fdAt K d.f with
  | some r => PySem.W.codeIn K r.1.code d.name && chkKw K r.1.kwdefaults d.kws
  | none => false) && PySem.W.keepIn K (.ref d.f) && decide (PySem.W.nsIn K mainGlobals d.name = some (some (.ref d.f)))
def BindsD0 (d : Df) : Prop := ∀ (kV doc pm : Value) (an : Option Addr) (cdv ct : Value) (us : List Value), us.length = d.ps.length → bindArgs (PySem.W.fnOf d.name d.name (defArgs d.st) (defBody d.st) (defScope d.st) .none kV doc pm an cdv ct) ⟨us, []⟩ = pure (d.ps.zip us)
def BindsD (d : Df) : Prop := if d.kws = [] then BindsD0 d else ∀ (D : Addr) (doc pm : Value) (an : Option Addr) (cdv ct : Value) (us ks : List Value), us.length + d.kws.length = d.ps.length → ks.length = d.kws.length →
  KwChain D ((d.kws.map (·.1)).zip ks) (bindArgs (PySem.W.fnOf d.name d.name (defArgs d.st) (defBody d.st) (defScope d.st) .none (.ref D) doc pm an cdv ct) ⟨us, []⟩) (d.ps.zip (us ++ ks))
section
variable {K : PySem.W.Frag} {h : Heap} {mg : Str → Option Value}
theorem kwRel : ∀ {D : Addr} {kws : List (Str × PyData)}, (kws.all fun p => (match PySem.W.nsIn K D p.1 with
    | some (some u) => valIs K 9 p.2 u
    | _ => false)) = true → ∃ (us : List Value) (dvs : List V), us.length = kws.length ∧ Vals dvs us ∧ (∀ w H fz, RpA K w H fz (kws.map (·.2)) dvs) ∧ ∀ q ∈ (kws.map (·.1)).zip us, PySem.W.nsIn K D q.1 = some (some q.2)
  | D, [], _ => ⟨[], [], rfl, .nil, fun _ _ _ => .nil, fun q hq => by cases hq⟩
  | D, p :: kws, h => by
    rw [List.all_cons, Bool.and_eq_true] at h
    obtain ⟨h1, h2⟩ := h
    obtain ⟨us, dvs, a, b, c, d⟩ := kwRel h2
    split at h1
    · rename_i u hu
      obtain ⟨v, r1, r2⟩ := valIs_ok 9 p.2 u h1
      refine ⟨u :: us, v :: dvs, congrArg Nat.succ a, .cons r1 b, fun w H fz => .cons (r2 w H fz) (c w H fz), fun q hq => ?_⟩
      rcases List.mem_cons.mp (show q ∈ (p.1, u) :: (kws.map (·.1)).zip us from hq) with e | hq
      · rw [e]; exact hu
      · exact d q hq
    · cases h1
theorem bindsAll {d : Df} {fd : FuncData} {F : Fun K d.name d.name d.st d.f fd} (e1 : fd = PySem.W.fnOf d.name d.name (defArgs d.st) (defBody d.st) (defScope d.st) .none fd.kwdefaults fd.doc fd.pyModule fd.annotations fd.code fd.closureTuple) (e2 : chkKw K fd.kwdefaults d.kws = true) (e3 : BindsD d) :
    ∃ ds dvs, Binds K fd d.ps ds ∧ Vals dvs ds ∧ ∀ w H fz, RpA K w H fz (d.kws.map (·.2)) dvs := by
  unfold BindsD at e3
  by_cases hk : d.kws = []
  · rw [if_pos hk] at e3
    exact ⟨[], [], F.binds e3, .nil, fun w H fz => by rw [hk]; exact .nil⟩
  · rw [if_neg hk] at e3
    unfold chkKw at e2
    have hne : d.kws.isEmpty = false := by cases h : d.kws with | nil => exact absurd h hk | cons _ _ => rfl
    rw [hne, Bool.false_or] at e2
    split at e2
    · rename_i D hD
      obtain ⟨us, dvs, a, b, c, q⟩ := kwRel e2
      refine ⟨us, dvs, fun s vs X hl => ?_, b, c⟩
      rw [hD] at e1
      have hlen : vs.length + d.kws.length = d.ps.length := by rw [List.length_append, a] at hl; exact hl
      rw [e1]
      exact BindsTo.of_looks fun M => KwChain.looks X q (e3 D fd.doc fd.pyModule fd.annotations fd.code fd.closureTuple vs us hlen a)
    · cases e2
theorem fnFact (X : K.In h) (G : h.Ns mainGlobals mg) {d : Df} (e1 : fdAt K d.f = (fdAt K d.f).map (normF d)) (e2 : chkF K d = true) (e3 : BindsD d) :
    ∃ fd ds dvs, Fun K d.name d.name d.st d.f fd ∧ Binds K fd d.ps ds ∧ Vals dvs ds ∧ (∀ w H fz, RpA K w H fz (d.kws.map (·.2)) dvs) ∧ mg d.name = some (.ref d.f) := by
  unfold chkF at e2
  simp only [Bool.and_eq_true, decide_eq_true_eq] at e2
  obtain ⟨⟨h1, h2⟩, h3⟩ := e2
  cases ef : fdAt K d.f with
  | none => rw [ef] at h1; cases h1
  | some r =>
    rw [ef] at h1 e1
    have e1 : r = normF d r := Option.some.inj e1
    unfold fdAt at ef
    split at ef
    · rename_i oc od fd sl hl
      cases ef
      have e1 := congrArg Prod.fst e1
      have e1 : fd = PySem.W.fnOf d.name d.name (defArgs d.st) (defBody d.st) (defScope d.st) .none fd.kwdefaults fd.doc fd.pyModule fd.annotations fd.code fd.closureTuple := e1
      have F : Fun K d.name d.name d.st d.f fd := ⟨⟨oc, od, fd.kwdefaults, fd.doc, fd.pyModule, fd.annotations, fd.code, fd.closureTuple, sl, e1, hl, by rw [Bool.and_eq_true] at h1; exact h1.1⟩, h2⟩
      have e0 : fd.kwdefaults = fd.kwdefaults := rfl
      rw [Bool.and_eq_true] at h1
      obtain ⟨ds, dvs, hb, hv, hr⟩ := bindsAll (F := F) e1 h1.2 e3
      exact ⟨fd, ds, dvs, F, hb, hv, hr, PySem.W.mg_of X G h3⟩
    · cases ef
end
/-! ### scopes -/
def chkS (N ps : List Str) (sc : Scope) : Bool := isFun sc && !sc.isCoroutine && !sc.isGenerator && decide N.Nodup && decide (N.take ps.length = ps) && ps.all (fun x => isLoc (sc.names.lookup x)) && sc.names.all fun y => decide (y.2 ≠ .free)
theorem chkS_ok {N ps : List Str} {sc : Scope} (h : chkS N ps sc = true) : FnScope N ps sc := by
  unfold chkS at h
  simp only [Bool.and_eq_true, decide_eq_true_eq, Bool.not_eq_true', List.all_eq_true] at h
  obtain ⟨⟨⟨⟨⟨⟨h1, h2⟩, h3⟩, h4⟩, h5⟩, h6⟩, h7⟩ := h
  exact ⟨isFun_ok h1, h2, h3, h4, h5, fun x hx => isLoc_iff.mp (h6 x hx), fun y hy => h7 y hy⟩
def chkD (d : Df) : Bool := chkS d.N d.ps (defScope d.st) && decide (d.fn.np = d.ps.length) && decide (d.fn.nl = d.N.length)
theorem dfs_ok {ds : List Df} {tab : List (Str × Ent)} (h1 : ds.map (·.comp tab) = ds.map fun d => some d.fn.body) (h2 : ds.all chkD = true) : ∀ d ∈ ds, d.Ok tab := fun d hd => by
  have h3 := List.all_eq_true.mp h2 d hd
  unfold chkD at h3
  simp only [Bool.and_eq_true, decide_eq_true_eq] at h3
  exact ⟨List.map_inj_left.mp h1 d hd, h3.1.2, h3.2, chkS_ok h3.1.1⟩
/-! ### classes -/
def excB (K : PySem.W.Frag) (D : Addr) : Bool := decide (PySem.W.findIn K (.ref D) "__getattribute__" = some (some (.builtin "BaseException.__getattribute__"))) && decide (PySem.W.findIn K (.ref D) "__getattr__" = some none) &&
  decide (PySem.W.subIn K (.ref D) (.type "BaseException") = some true) && PySem.W.hasDictIn K D && decide (PySem.W.findIn K (.ref D) "__class__" = some (some (.builtin "object.__class__"))) &&
  decide (PySem.W.specialIn K (.builtin "object.__class__") "__get__" = some (some (.builtin "getset_descriptor.__get__"))) && decide (PySem.W.takesIn K (.builtin "object.__class__") = some true) && decide (PySem.W.mroIn K D (.type "object") = some true)
theorem excB_ok {K : PySem.W.Frag} {D : Addr} (h : excB K D = true) : ExcC K D := by
  unfold excB at h
  simp only [Bool.and_eq_true, decide_eq_true_eq] at h
  obtain ⟨⟨⟨⟨⟨⟨⟨h1, h2⟩, h3⟩, h4⟩, h5⟩, h6⟩, h7⟩, h8⟩ := h
  exact ⟨h1, h2, h3, h4, h5, h6, h7, h8⟩
def isCb : Value → Bool
  | .ref _ => true
  | .type _ => true
  | _ => false
theorem isCb_ok {v : Value} (h : isCb v = true) : IsC v := by
  cases v <;> first | exact .inl ⟨_, rfl⟩ | exact .inr ⟨_, rfl⟩ | cases h
/-- which class is one of which -/
abbrev Sb := List (Nat × List Nat × Bool)
def subOf (sb : Sb) (c : Nat) (ks : List Nat) : Option Bool := (sb.find? fun r => r.1 == c && r.2.1 == ks).map (·.2.2)
theorem subOf_mem {sb : Sb} {c : Nat} {ks : List Nat} {b : Bool} (h : subOf sb c ks = some b) : (c, ks, b) ∈ sb := by
  unfold subOf at h
  obtain ⟨r, h1, h2⟩ := Option.map_eq_some_iff.mp h
  have h3 := List.find?_some h1
  have h4 := List.mem_of_find?_eq_some h1
  rw [Bool.and_eq_true, beq_iff_eq, beq_iff_eq] at h3
  obtain ⟨a, b', c'⟩ := r
  dsimp only at h2 h3
  obtain ⟨rfl, rfl⟩ := h3
  subst h2
  exact h4
def chkSb (K : PySem.W.Frag) (cx : Nat → Value) (r : Nat × List Nat × Bool) : Bool := (match cx r.1 with
    | .ref D => excB K D
    | _ => false) && r.2.1.all (fun k => isCb (cx k)) && decide (PySem.W.kitAny K (cx r.1) (r.2.1.map cx) = some r.2.2) && (match r.2.1 with
    | [k] => decide (PySem.W.kitOne K (cx r.1) (cx k) = some r.2.2) && decide (PySem.W.exmOne K (cx r.1) (cx k) = some r.2.2)
    | _ => true)
theorem clsOk {K : PySem.W.Frag} {cx : Nat → Value} {sb : Sb} (h : sb.all (chkSb K cx) = true) : ClsOk K cx (subOf sb) := by
  have q : ∀ c ks b, subOf sb c ks = some b → (∃ D, cx c = .ref D ∧ ExcC K D) ∧ (∀ k ∈ ks, IsC (cx k)) ∧ PySem.W.kitAny K (cx c) (ks.map cx) = some b ∧ ∀ k, ks = [k] → PySem.W.kitOne K (cx c) (cx k) = some b ∧ PySem.W.exmOne K (cx c) (cx k) = some b := fun c ks b e => by
    have := List.all_eq_true.mp h _ (subOf_mem e)
    unfold chkSb at this
    simp only [Bool.and_eq_true, decide_eq_true_eq, List.all_eq_true] at this
    obtain ⟨⟨⟨h1, h2⟩, h3⟩, h4⟩ := this
    refine ⟨?_, fun k hk => isCb_ok (h2 k hk), h3, fun k ek => ?_⟩
    · split at h1
      · rename_i D eD
        exact ⟨D, eD, excB_ok h1⟩
      · cases h1
    · subst ek
      simpa only [Bool.and_eq_true, decide_eq_true_eq] using h4
  exact ⟨fun c ks b e => (q c ks b e).1, fun c ks b e => (q c ks b e).2.1, fun c ks b e => (q c ks b e).2.2.1, fun c k b e => ((q c [k] b e).2.2.2 k rfl).1, fun c k b e => ((q c [k] b e).2.2.2 k rfl).2⟩
abbrev bmVE : List Value := [.type "ValueError", .type "Exception", .type "BaseException", .type "object"]
def rzB (K : PySem.W.Frag) (c : Value) : Bool := match c with
  | .ref C => PySem.W.excIn K C bmVE "ValueError.__new__" && PySem.W.keepIn K (.ref C) && decide (PySem.W.subIn K (.ref C) (.type "BaseException") = some true) && decide (PySem.W.typeIn K (.ref C) = some (.type "type"))
  | _ => false
theorem rzB_ok {K : PySem.W.Frag} {mg : Str → Option Value} {x : Str} {c : Value} (h : rzB K c = true) (hm : mg x = some c) : RzOk K mg x c := by
  unfold rzB at h
  split at h
  · rename_i C
    simp only [Bool.and_eq_true, decide_eq_true_eq] at h
    obtain ⟨⟨⟨h1, h2⟩, h3⟩, h4⟩ := h
    exact ⟨C, bmVE, _, _, _, rfl, PySem.F.excBase_ValueError, h1, hm, h2, h3, h4⟩
  · cases h
/-! ### the whole -/
def eqS : PyData → PyData → Bool
  | .none, .none => true
  | .bool a, .bool b => a == b
  | .int a, .int b => a == b
  | .str a, .str b => a == b
  | .tuple [], .tuple [] => true
  | _, _ => false
theorem eqS_ok {a b : PyData} (h : eqS a b = true) : a = b := by
  unfold eqS at h
  split at h
  · rfl
  · rw [beq_iff_eq] at h; rw [h]
  · rw [beq_iff_eq] at h; rw [h]
  · rw [beq_iff_eq] at h; rw [h]
  · rfl
  · cases h
def eqSs : List PyData → List PyData → Bool
  | [], [] => true
  | a :: r, b :: t => eqS a b && eqSs r t
  | _, _ => false
theorem eqSs_ok : ∀ {a b : List PyData}, eqSs a b = true → a = b
  | [], [], _ => rfl
  | a :: r, b :: t, h => by
    simp only [eqSs, Bool.and_eq_true] at h
    rw [eqS_ok h.1, eqSs_ok h.2]
def chkE (K : PySem.W.Frag) (cx : Nat → Value) (ds : List Df) (p : Str × Ent) : Bool := match p.2 with
  | .fn i np kw => (match ds[i]? with
    | some d => decide (d.name = p.1) && decide (d.ps.length = np) && eqSs (d.kws.map (·.2)) kw
    | none => false)
  | .cst d => (match PySem.W.nsIn K mainGlobals p.1 with
    | some (some u) => valIs K 9 d u
    | _ => false)
  | .cd kvs => cdIs K p.1 kvs
  | .cls k => decide (PySem.W.nsIn K mainGlobals p.1 = some (some (cx k))) && isCb (cx k) && (decide (¬ k < 100) || rzB K (cx k))
def sysB (K : PySem.W.Frag) : Bool := match K.lookup sysModules with
  | some o => decide (o.cls = .type "dict")
  | none => false
def cdsOf (tab : List (Str × Ent)) : List Str := tab.filterMap fun p => match p.2 with
  | .cd _ => some p.1
  | _ => none
theorem top_of {K : PySem.W.Frag} {w : World} {h : Heap} {mg : Str → Option Value} {cx : Nat → Value} {ds : List Df} {tab : List (Str × Ent)} {sb : Sb} (X : K.In h) (G : h.Ns mainGlobals mg)
    (e1 : (ds.map fun d => fdAt K d.f) = ds.map fun d => (fdAt K d.f).map (normF d)) (e2 : ds.all (chkF K) = true) (e3 : ∀ d ∈ ds, BindsD d) (e4 : tab.all (chkE K cx ds) = true)
    (e5 : ((cdsOf tab).map fun x => (dictIn K x).map (·.hash)) = (cdsOf tab).map fun x => (dictIn K x).map (hashOf w.params))
    (e6 : (bltNames.all fun x => decide (PySem.W.nsIn K mainGlobals x = some none)) = true) (e7 : sb.all (chkSb K cx) = true) (e8 : sysB K = true) : Top K w mg cx ds tab (subOf sb) := by
  have E : ∀ x e, tab.lookup x = some e → chkE K cx ds (x, e) = true := fun x e q => List.all_eq_true.mp e4 _ (lookup_mem q)
  have mgc : ∀ x k, tab.lookup x = some (.cls k) → mg x = some (cx k) ∧ IsC (cx k) ∧ (k < 100 → rzB K (cx k) = true) := fun x k q => by
    have := E x _ q
    unfold chkE at this
    simp only [Bool.and_eq_true, Bool.or_eq_true, decide_eq_true_eq] at this
    obtain ⟨⟨h1, h2⟩, h3⟩ := this
    exact ⟨PySem.W.mg_of X G h1, isCb_ok h2, fun hk => h3.resolve_left fun z => z hk⟩
  refine ⟨fun i d hd => ?_, fun x i np kw q => ?_, fun x d q => ?_, fun x kvs q => ?_, fun x k q => ⟨(mgc x k q).1, (mgc x k q).2.1⟩, fun x hx => ?_, fun x k q hk => rzB_ok ((mgc x k q).2.2 hk) (mgc x k q).1, clsOk e7, ?_⟩
  · have hm := List.mem_of_getElem? hd
    obtain ⟨fd, us, dvs, f1, f2, f3, f4, f5⟩ := fnFact X G (List.map_inj_left.mp e1 d hm) (List.all_eq_true.mp e2 d hm) (e3 d hm)
    exact ⟨fd, us, dvs, f1, f2, f3, fun H fz => f4 w H fz, f5⟩
  · have := E x _ q
    unfold chkE at this
    dsimp only at this
    split at this
    · rename_i d hd
      rw [Bool.and_eq_true, Bool.and_eq_true, decide_eq_true_eq, decide_eq_true_eq] at this
      exact ⟨d, hd, this.1.1, this.1.2, eqSs_ok this.2⟩
    · cases this
  · have := E x _ q
    unfold chkE at this
    dsimp only at this
    split at this
    · rename_i u hu
      obtain ⟨v, h1, h2⟩ := valIs_ok 9 d u this
      exact ⟨u, v, PySem.W.mg_of X G hu, h1, fun H fz => h2 w H fz⟩
    · cases this
  · have h1 : cdIs K x kvs = true := E x _ q
    have hm : x ∈ cdsOf tab := List.mem_filterMap.mpr ⟨_, lookup_mem q, rfl⟩
    obtain ⟨a, ks, h2, h3, h4, h5⟩ := cdIs_ok (w := w) h1 (List.map_inj_left.mp e5 x hm)
    exact ⟨a, ks, PySem.W.mg_of X G h2, h3, h4, h5⟩
  · have := List.all_eq_true.mp e6 x hx
    exact PySem.W.mg_none_of X G (of_decide_eq_true this)
  · unfold sysB at e8
    split at e8
    · rename_i o ho
      exact ⟨o, ho, of_decide_eq_true e8⟩
    · cases e8
end Lo
/-! The head: what the top leaves is read by an own hook, in one kernel run. -/
namespace Lo
open PySem PySem.Spec PyProof.Rows L2
theorem BindsD.all {d : Df} (h : d.kws = []) (b : BindsD0 d) : BindsD d := by unfold BindsD; rw [if_pos h]; exact b
theorem BindsD.kw {d : Df} (h : d.kws ≠ []) (b : ∀ (D : Addr) (doc pm : Value) (an : Option Addr) (cdv ct : Value) (us ks : List Value), us.length + d.kws.length = d.ps.length → ks.length = d.kws.length →
  KwChain D ((d.kws.map (·.1)).zip ks) (bindArgs (PySem.W.fnOf d.name d.name (defArgs d.st) (defBody d.st) (defScope d.st) .none (.ref D) doc pm an cdv ct) ⟨us, []⟩) (d.ps.zip (us ++ ks))) : BindsD d := by unfold BindsD; rw [if_neg h]; exact b
/-- the heap's first n objects, without lists -/
def keepO (o : Obj) : Option Obj := if noListO o then some o else none
def lowK (g : Addr → Option Obj) (n : Nat) : PySem.W.Frag := He.frG (fun a => (g a).bind keepO) (List.range n)
theorem lowK_in {h : Heap} {n : Nat} : (lowK h.get? n).In h := fun a o e => by
  have e1 := He.frG_at _ e
  obtain ⟨u, h1, h2⟩ := Option.bind_eq_some_iff.mp e1
  unfold keepO at h2
  split at h2
  · cases h2; exact h1
  · cases h2
theorem lowK_noList {g : Addr → Option Obj} {n : Nat} : noList (lowK g n) = true := by
  unfold noList
  rw [List.all_eq_true]
  intro p hp
  unfold lowK He.frG at hp
  obtain ⟨a, _, h1⟩ := List.mem_filterMap.mp hp
  obtain ⟨o, h2, rfl⟩ := Option.map_eq_some_iff.mp h1
  obtain ⟨u, _, h4⟩ := Option.bind_eq_some_iff.mp h2
  unfold keepO at h4
  split at h4
  · rename_i hn
    cases h4
    exact hn
  · cases h4
/-- a law's program: defs and classes by the addresses of their names -/
structure Lw where
  ds : (Str → Addr) → List Df
  cx : (Str → Addr) → Nat → Value
  tab : List (Str × Ent)
  sb : Sb
  n : Nat
abbrev FRow := Str × Str × Arguments × FuncBody × Scope × Addr × List (Str × Addr) × Value × Addr
def rowF (fd : FuncData) : FRow := (fd.name, fd.qualname, fd.params, fd.body, fd.scope, fd.globals, fd.closure, fd.defaults, fd.builtins)
def rowD (d : Df) : FRow := rowF (PySem.W.fnOf d.name d.name (defArgs d.st) (defBody d.st) (defScope d.st) .none .none .none .none none .none .none)
theorem rowF_ok {d : Df} {fd : FuncData} (h : rowF fd = rowD d) : fd = PySem.W.fnOf d.name d.name (defArgs d.st) (defBody d.st) (defScope d.st) .none fd.kwdefaults fd.doc fd.pyModule fd.annotations fd.code fd.closureTuple := by
  obtain ⟨a, b, c, e, f, g, i, j, k, l, m, n, o, p, q⟩ := fd
  unfold rowF rowD rowF at h
  simp only [Prod.mk.injEq] at h
  obtain ⟨h1, h2, h3, h4, h5, h6, h7, h8, h9⟩ := h
  subst h1 h2 h3 h4 h5 h6 h7 h8 h9
  rfl
section
variable (L : Lw)
def chkK (K : PySem.W.Frag) : Bool := (L.ds (He.ga K)).all (chkF K) && L.tab.all (chkE K (L.cx (He.ga K)) (L.ds (He.ga K))) && (bltNames.all fun x => decide (PySem.W.nsIn K mainGlobals x = some none)) && L.sb.all (chkSb K (L.cx (He.ga K))) && sysB K
def rowsK (K : PySem.W.Frag) : List (Option FRow) := (L.ds (He.ga K)).map fun d => (fdAt K d.f).map fun r => rowF r.1
def hashK (K : PySem.W.Frag) : List (List (Int × Str)) := (cdsOf L.tab).map fun x => (dictIn K x).map fun e => (e.hash, strOf e.key)
def hashV (P : Params) : List (List (Int × Str)) := L.tab.filterMap fun p => match p.2 with
  | .cd kvs => some ((keysOf kvs).map fun x => (PyData.keyHash P x, x))
  | _ => none
def rowsV : List (Option FRow) := (L.ds fun _ => 0).map fun d => some (rowD d)
/-- what the head's hook tells -/
structure LwSays (w : World) (K : PySem.W.Frag) : Prop where
  nl : noList K = true
  chk : chkK L K = true
  rows : rowsK L K = rowsV L
  hash : hashK L K = hashV L w.params
abbrev HkA := Bool × List (Option FRow) × List (List (Int × Str))
def obsK (K : PySem.W.Frag) : HkA := (chkK L K, rowsK L K, hashK L K)
def hk : PySem.W.Hook where
  α := HkA
  obs := fun s => obsK L (lowK s.heap.get? L.n)
  val := fun w => (true, rowsV L, hashV L w.params)
  says := fun w h => ∃ K, K.In h ∧ LwSays L w K
  of := fun w s e => ⟨lowK s.heap.get? L.n, lowK_in, lowK_noList, congrArg Prod.fst e, congrArg (fun x => x.2.1) e, congrArg (fun x => x.2.2) e⟩
  keeps := fun w h h' ⟨K, X, F⟩ k => ⟨K, X.keeps k, F⟩
def obH (s : PySem.W.SharedT) : HkA := obsK L (lowK (HandSHeadRun.getT s) L.n)
theorem obH_eq (s : PySem.W.SharedT) : obH L s = (hk L).obs s.abs := by
  have e : HandSHeadRun.getT s = s.abs.heap.get? := funext (HandSHeadRun.getT_eq s)
  unfold obH
  rw [e]
  rfl
/-- the defs are the same but for their addresses -/
structure LwOk : Prop where
  same : ∀ ad, (L.ds ad).map rowD = (L.ds fun _ => 0).map rowD
  binds : ∀ ad, ∀ d ∈ L.ds ad, BindsD d
  ok : ∀ ad, ∀ d ∈ L.ds ad, d.Ok L.tab
theorem LwSays.top {L : Lw} (O : LwOk L) {w : World} {K : PySem.W.Frag} {h : Heap} {mg : Str → Option Value} (S : LwSays L w K) (X : K.In h) (G : h.Ns mainGlobals mg) : Top K w mg (L.cx (He.ga K)) (L.ds (He.ga K)) L.tab (subOf L.sb) := by
  have hc := S.chk
  unfold chkK at hc
  simp only [Bool.and_eq_true] at hc
  obtain ⟨⟨⟨⟨h1, h2⟩, h3⟩, h4⟩, h5⟩ := hc
  refine top_of X G ?_ h1 (O.binds _) h2 ?_ h3 h4 h5
  · have hr := S.rows
    unfold rowsK rowsV at hr
    have e0 : ((L.ds fun _ => 0).map fun d => some (rowD d)) = (L.ds (He.ga K)).map fun d => some (rowD d) := by
      have := congrArg (List.map some) (O.same (He.ga K))
      rw [List.map_map, List.map_map] at this
      exact this.symm
    rw [e0] at hr
    refine List.map_inj_left.mpr fun d hd => ?_
    have hr := List.map_inj_left.mp hr d hd
    cases ef : fdAt K d.f with
    | none => rfl
    | some r =>
      rw [ef] at hr
      have e1 : rowF r.1 = rowD d := Option.some.inj hr
      have e2 := rowF_ok e1
      show some r = some (normF d r)
      unfold normF
      rw [← e2]
  · have hh := S.hash
    unfold hashK hashV at hh
    have key : ∀ x ∈ cdsOf L.tab, ∃ ks : List Str, ((dictIn K x).map fun e => (e.hash, strOf e.key)) = ks.map fun x => (PyData.keyHash w.params x, x) := by
      have : ∀ (t : List (Str × Ent)), ((cdsOf t).map fun x => (dictIn K x).map fun e => (e.hash, strOf e.key)) = (t.filterMap fun p => match p.2 with
        | .cd kvs => some ((keysOf kvs).map fun x => (PyData.keyHash w.params x, x))
        | _ => none) → ∀ x ∈ cdsOf t, ∃ ks : List Str, ((dictIn K x).map fun e => (e.hash, strOf e.key)) = ks.map fun x => (PyData.keyHash w.params x, x) := by
        intro t
        induction t with
        | nil => intro _ x hx; cases hx
        | cons p t ih =>
          obtain ⟨y, e⟩ := p
          cases e with
          | cd kvs =>
            intro q x hx
            have q : ((dictIn K y).map fun e => (e.hash, strOf e.key)) :: ((cdsOf t).map fun x => (dictIn K x).map fun e => (e.hash, strOf e.key)) = ((keysOf kvs).map fun x => (PyData.keyHash w.params x, x)) :: _ := q
            rw [List.cons.injEq] at q
            have hx : x ∈ y :: cdsOf t := hx
            rcases List.mem_cons.mp hx with rfl | hx
            · exact ⟨_, q.1⟩
            · exact ih q.2 x hx
          | fn i np => exact ih
          | cst d => exact ih
          | cls k => exact ih
      exact this _ hh
    refine List.map_inj_left.mpr fun x hx => ?_
    obtain ⟨ks, hk⟩ := key x hx
    have pt : ∀ {es : List DictEntry} {ks : List Str}, (es.map fun e => (e.hash, strOf e.key)) = ks.map (fun x => (PyData.keyHash w.params x, x)) → es.map (·.hash) = es.map (hashOf w.params) := by
      intro es
      induction es with
      | nil => intro _ _; rfl
      | cons e es ih =>
        intro ks q
        cases ks with
        | nil => cases q
        | cons k ks =>
          rw [List.map_cons, List.map_cons, List.cons.injEq, Prod.mk.injEq] at q
          rw [List.map_cons, List.map_cons, ih q.2]
          congr 1
          rw [q.1.1]
          unfold hashOf
          rw [q.1.2]
    exact pt hk
end
theorem walk_lw {L : Lw} {l : PySem.W.OpenLaw} {k turns : Nat} {q : Program} {loose : List Str} {XP : (Str → Option Value) → Heap → Prop} {d : DefRec} {il : Nat} {fns : List Fn} {x : Str}
    (hn : l.most = some 63) (hdf : d.params.defaults = []) (hr : Room k callerA) (O : LwOk L) (hl : ∀ ad, ∃ dl, (L.ds ad)[il]? = some dl ∧ dl.ps = [x] ∧ dl.kws = [] ∧ dl.name = d.name) (hf : ∀ ad, (L.ds ad).map (·.fn) = fns)
    (hrun : ∀ ns : List Int, ns.length ≤ 63 → (∀ z ∈ ns, Builtin.Int.intBits z ≤ 1048576) → callF ⟨fns, subOf L.sb, turns⟩ k il [.ro (ns.map PyData.int)] [] = .ok (.d (.bool true)) []) :
    PySem.W.WalkO q loose XP (hk L).says l.row.toRowW d [] (fun f vs => PySem.call f vs) := by
  refine Att.attach_callB hn hdf fun w s₀ s₁ mg mb fa o pm cd doc a vs ns G Y ho hd hcd hmg hobj hints hlen hbits hg => ?_
  obtain ⟨K, KX, S⟩ := Y
  have T := S.top O KX G.T.g
  obtain ⟨dl, h1, h2, hkw, h3⟩ := hl (He.ga K)
  obtain ⟨fd, us0, dvs0, hF, hB, hV0, hR0, hm⟩ := T.fn il dl h1
  have e0 : us0 = [] := by
    rw [hkw] at hR0
    have h := hR0 (fun _ => none) (fun _ => False)
    cases h
    cases hV0
    rfl
  subst e0
  rw [← h3, hm] at hmg
  cases hmg
  refine law_run (x := x) (fd := fd) (cx := L.cx (He.ga K)) KX S.nl G.T.g G.T.b G.T.builtins G.T.nolimit hg hobj hints hlen hr (fun base _ _ => ?_) (fun s u ks => ?_) (hrun ns hlen hbits)
  · have := fnG_all (P := l.prog) (base := base) (turns := turns) T (O.ok _) k il dl fd h1 hF
    rw [h2] at this
    have e : pgOf (L.ds (He.ga K)) (subOf L.sb) turns = ⟨fns, subOf L.sb, turns⟩ := by unfold pgOf; rw [hf]
    rw [e] at this
    exact this
  · have := hB s [u] ks (by rw [h2]; rfl)
    rw [h2] at this
    exact this
end Lo
/-! What a run of the small language comes to: a word of its end. -/
namespace Lo
open PySem
@[irreducible] def R.wp {α : Type} (r : R α) (Q : α → Mem → Prop) (E : Nat → Mem → Prop) : Prop := match r with
  | .ok a m => Q a m
  | .exc c m => E c m
  | .bad => False
@[irreducible] def RS.wp (r : RS) (Q : Fl → En → Mem → Prop) (E : Nat → En → Mem → Prop) : Prop := match r with
  | .ok f ρ m => Q f ρ m
  | .exc c ρ m => E c ρ m
  | .bad => False
@[irreducible] def OS {α : Type} (o : Option α) (P : α → Prop) : Prop := match o with
  | some a => P a
  | none => False
def W.b2 (w : W) (P Q : Prop) : Prop := match w with
  | .d (.bool true) => P
  | .d (.bool false) => Q
  | _ => False
def W.bl (w : W) (P : Bool → Prop) : Prop := match w with
  | .d (.bool b) => P b
  | _ => False
def Fl.nxt (f : Fl) (P Q : Prop) : Prop := match f with
  | .nx => P
  | _ => Q
def look (ρ : En) (i : Nat) : Option W := match ρ[i]? with
  | some o => o
  | none => none
def noE : Nat → Mem → Prop := fun _ _ => False
def noEn : Nat → En → Mem → Prop := fun _ _ _ => False
section
variable {α β : Type} {Q : α → Mem → Prop} {E : Nat → Mem → Prop} {m : Mem}
@[simp] theorem wp_ok (a : α) (m : Mem) : (R.ok a m).wp Q E = Q a m := by unfold R.wp; rfl
@[simp] theorem wp_exc (c : Nat) (m : Mem) : (R.exc c m : R α).wp Q E = E c m := by unfold R.wp; rfl
@[simp] theorem wp_bad : (R.bad : R α).wp Q E = False := by unfold R.wp; rfl
@[simp] theorem wp_bind (r : R β) (f : β → Mem → R α) : (r.bind f).wp Q E = r.wp (fun a m => (f a m).wp Q E) E := by cases r <;> simp only [R.bind, wp_ok, wp_exc, wp_bad]
@[simp] theorem OS_some (a : α) (P : α → Prop) : OS (some a) P = P a := by unfold OS; rfl
@[simp] theorem OS_none (P : α → Prop) : OS none P = False := by unfold OS; rfl
@[simp] theorem wp_of (o : Option α) : (R.of m o).wp Q E = OS o fun a => Q a m := by cases o <;> simp only [R.of, wp_ok, wp_bad, OS_some, OS_none]
theorem OS_map (o : Option β) (f : β → α) (P : α → Prop) : OS (o.map f) P = OS o fun b => P (f b) := by cases o <;> simp only [Option.map, OS_some, OS_none]
theorem OS_ite (c : Prop) [Decidable c] (x y : Option α) (P : α → Prop) : OS (if c then x else y) P = ((c → OS x P) ∧ (¬c → OS y P)) := by
  by_cases h : c <;> simp [h]
@[simp] theorem OS_if (c : Prop) [Decidable c] (x : α) (P : α → Prop) : OS (if c then some x else none) P = (c ∧ P x) := by
  by_cases h : c <;> simp [h]
theorem wp_ite (c : Prop) [Decidable c] (x y : R α) : (if c then x else y).wp Q E = ((c → x.wp Q E) ∧ (¬c → y.wp Q E)) := by
  by_cases h : c <;> simp [h]
theorem R.wp_mono {r : R α} {Q' : α → Mem → Prop} {E' : Nat → Mem → Prop} (h : r.wp Q' E') (h1 : ∀ a m, Q' a m → Q a m) (h2 : ∀ c m, E' c m → E c m) : r.wp Q E := by
  cases r with
  | ok a m => rw [wp_ok] at h ⊢; with_unfolding_all exact h1 a m h
  | exc c m => rw [wp_exc] at h ⊢; with_unfolding_all exact h2 c m h
  | bad => rw [wp_bad] at h; with_unfolding_all exact h.elim
theorem R.wp_eq {r : R α} {a : α} {m : Mem} (h : r = .ok a m) (h1 : Q a m) : r.wp Q E := by rw [h, wp_ok]; with_unfolding_all exact h1
@[simp] theorem b2_b (b : Bool) (P Q : Prop) : (W.d (.bool b)).b2 P Q = ((b = true → P) ∧ (b = false → Q)) := by cases b <;> simp [W.b2]
@[simp] theorem bl_b (b : Bool) (P : Bool → Prop) : (W.d (.bool b)).bl P = P b := id rfl
@[simp] theorem nxt_nx (P Q : Prop) : Fl.nx.nxt P Q = P := id rfl
@[simp] theorem nxt_ret (w : W) (P Q : Prop) : (Fl.ret w).nxt P Q = Q := id rfl
@[simp] theorem nxt_brk (P Q : Prop) : Fl.brk.nxt P Q = Q := id rfl
@[simp] theorem nxt_cnt (P Q : Prop) : Fl.cnt.nxt P Q = Q := id rfl
@[simp] theorem look_zero (o : Option W) (ρ : En) : look (o :: ρ) 0 = o := id rfl
@[simp] theorem look_succ (o : Option W) (ρ : En) (i : Nat) : look (o :: ρ) (i + 1) = look ρ i := id rfl
end
theorem lcWalk_wp {β γ : Type} (f : PyData → Mem → R (Option β)) (add : β → γ → Option γ) (acc : γ) (w : W) (m : Mem) (Q : γ → Mem → Prop) (E : Nat → Mem → Prop) : (lcWalk f add acc w m).wp Q E = OS (items m w) fun xs => (lcGo f add xs acc (lockM m (lockOf m w))).wp (fun r m' => Q r (unlockM m' (lockOf m w))) noE := by
  unfold lcWalk
  cases items m w with
  | none => with_unfolding_all rfl
  | some xs => simp only [OS_some]; cases lcGo f add xs acc (lockM m (lockOf m w)) <;> with_unfolding_all rfl
section
variable (F : Cs) (Q : W → Mem → Prop) (E : Nat → Mem → Prop) (ρ : En) (m : Mem)
@[simp] theorem ev_c (x : PyData) : (ev F (.c x) ρ m).wp Q E = Q (.d x) m := by simp only [ev, wp_ok]
@[simp] theorem ev_g (y : Str) (x : PyData) : (ev F (.g y x) ρ m).wp Q E = Q (.d x) m := by simp only [ev, wp_ok]
@[simp] theorem ev_gd (y : Str) (x : List (PyData × PyData)) : (ev F (.gd y x) ρ m).wp Q E = Q (.rod x) m := by simp only [ev, wp_ok]
@[simp] theorem ev_dnew : (ev F .dnew ρ m).wp Q E = Q (.newd []) m := by simp only [ev, wp_ok]
@[simp] theorem ev_v (i : Nat) : (ev F (.v i) ρ m).wp Q E = OS (look ρ i) fun w => Q w m := by
  unfold look; simp only [ev]; cases ρ[i]? with
  | none => with_unfolding_all rfl
  | some o => cases o <;> with_unfolding_all rfl
@[simp] theorem w_ev_bin (op : Operator) (a b : Ex) : (ev F (.bin op a b) ρ m).wp Q E = (ev F a ρ m).wp (fun x m => (ev F b ρ m).wp (fun y m => OS (binW op x y m) fun w => Q w m) E) E := by simp only [ev, wp_bind, wp_of]
@[simp] theorem w_ev_neg (i : Int) : (ev F (.neg (.c (.int i))) ρ m).wp Q E = Q (.d (.int (-i))) m := by simp only [ev, wp_bind, wp_ok]
@[simp] theorem w_ev_cmp (op : CmpOp) (a b : Ex) : (ev F (.cmp op a b) ρ m).wp Q E = (ev F a ρ m).wp (fun x m => (ev F b ρ m).wp (fun y m => OS (cmpW op x y m) fun w => Q (.d (.bool w)) m) E) E := by simp only [ev, wp_bind, wp_of, okB, OS_map]
@[simp] theorem w_ev_isN (a : Ex) : (ev F (.isN a) ρ m).wp Q E = (ev F a ρ m).wp (fun x m => Q (.d (.bool (isNone x))) m) E := by simp only [ev, wp_bind, wp_ok]
@[simp] theorem w_ev_notN (a : Ex) : (ev F (.notN a) ρ m).wp Q E = (ev F a ρ m).wp (fun x m => Q (.d (.bool (!isNone x))) m) E := by simp only [ev, wp_bind, wp_ok]
@[simp] theorem w_ev_chn (o1 o2 : CmpOp) (a b c : Ex) : (ev F (.chn o1 o2 a b c) ρ m).wp Q E = (ev F a ρ m).wp (fun x m => (ev F b ρ m).wp (fun y m => OS (cmpW o1 x y m) fun t => (t = true → (ev F c ρ m).wp (fun z m => OS (cmpW o2 y z m) fun t => Q (.d (.bool t)) m) E) ∧ (t = false → Q (.d (.bool false)) m)) E) E := by
  simp only [ev, wp_bind]
  congr; funext x m; congr; funext y m
  cases cmpW o1 x y m with
  | none => with_unfolding_all rfl
  | some t => cases t <;> simp [okB, OS_map]
@[simp] theorem w_ev_not (a : Ex) : (ev F (.not a) ρ m).wp Q E = (ev F a ρ m).wp (fun w m => OS (truth m w) fun b => Q (.d (.bool (!b))) m) E := by simp only [ev, wp_bind, wp_of, wp_ok]
@[simp] theorem ev_and (es : List Ex) : (ev F (.and es) ρ m).wp Q E = (evAnd F es ρ m).wp Q E := by simp only [ev]
@[simp] theorem ev_or (es : List Ex) : (ev F (.or es) ρ m).wp Q E = (evOr F es ρ m).wp Q E := by simp only [ev]
@[simp] theorem evAnd_one (e : Ex) : (evAnd F [e] ρ m).wp Q E = (ev F e ρ m).wp Q E := by simp only [evAnd]
@[simp] theorem evAnd_cons (e e2 : Ex) (es : List Ex) : (evAnd F (e :: e2 :: es) ρ m).wp Q E = (ev F e ρ m).wp (fun w m => w.b2 ((evAnd F (e2 :: es) ρ m).wp Q E) (Q (.d (.bool false)) m)) E := by
  simp only [evAnd, wp_bind]
  congr; funext w m
  cases w with
  | d x => cases x with
    | bool b => cases b <;> simp
    | _ => with_unfolding_all rfl
  | _ => with_unfolding_all rfl
@[simp] theorem evOr_one (e : Ex) : (evOr F [e] ρ m).wp Q E = (ev F e ρ m).wp Q E := by simp only [evOr]
@[simp] theorem evOr_cons (e e2 : Ex) (es : List Ex) : (evOr F (e :: e2 :: es) ρ m).wp Q E = (ev F e ρ m).wp (fun w m => w.b2 (Q (.d (.bool true)) m) ((evOr F (e2 :: es) ρ m).wp Q E)) E := by
  simp only [evOr, wp_bind]
  congr; funext w m
  cases w with
  | d x => cases x with
    | bool b => cases b <;> simp
    | _ => with_unfolding_all rfl
  | _ => with_unfolding_all rfl
@[simp] theorem w_ev_ite (c a b : Ex) : (ev F (.ite c a b) ρ m).wp Q E = (ev F c ρ m).wp (fun w m => OS (truth m w) fun t => (t = true → (ev F a ρ m).wp Q E) ∧ (t = false → (ev F b ρ m).wp Q E)) E := by
  simp only [ev, wp_bind, wp_of]
  congr; funext w m
  cases truth m w with
  | none => with_unfolding_all rfl
  | some t => cases t <;> simp
@[simp] theorem w_ev_tup (es : List Ex) : (ev F (.tup es) ρ m).wp Q E = (evs F es ρ m).wp (fun xs m => OS (laidAll xs) fun ys => Q (.d (.tuple ys)) m) E := by simp only [ev, wp_bind, wp_of, OS_map]
@[simp] theorem w_ev_lst (es : List Ex) : (ev F (.lst es) ρ m).wp Q E = (evs F es ρ m).wp (fun xs m => OS (laidAll xs) fun ys => Q (.new ys) m) E := by simp only [ev, wp_bind, wp_of, OS_map]
@[simp] theorem w_ev_ix (a i : Ex) : (ev F (.ix a i) ρ m).wp Q E = (ev F a ρ m).wp (fun x m => (ev F i ρ m).wp (fun y m => OS (ixW x y m) fun w => Q w m) E) E := by simp only [ev, wp_bind, wp_of]
@[simp] theorem w_ev_sl (a : Ex) (lo hi : List Ex) : (ev F (.sl a lo hi) ρ m).wp Q E = (ev F a ρ m).wp (fun x m => (evs F lo ρ m).wp (fun l m => OS (intO l) fun l => (evs F hi ρ m).wp (fun h m => OS (intO h) fun h => OS (slW x l h m) fun w => Q w m) E) E) E := by simp only [ev, wp_bind, wp_of]
@[simp] theorem w_ev_step (a : Ex) (lo hi st : List Ex) : (ev F (.step a lo hi st) ρ m).wp Q E = (ev F a ρ m).wp (fun x m => (evs F lo ρ m).wp (fun l m => OS (intO l) fun l => (evs F hi ρ m).wp (fun h m => OS (intO h) fun h => (evs F st ρ m).wp (fun k m => OS (intO k) fun k => OS (stepW x l h k m) fun w => Q w m) E) E) E) E := by simp only [ev, wp_bind, wp_of]
@[simp] theorem w_evs_nil (Q : List W → Mem → Prop) : (evs F [] ρ m).wp Q E = Q [] m := by simp only [evs, wp_ok]
@[simp] theorem w_evs_cons (e : Ex) (es : List Ex) (Q : List W → Mem → Prop) : (evs F (e :: es) ρ m).wp Q E = (ev F e ρ m).wp (fun x m => (evs F es ρ m).wp (fun xs m => Q (x :: xs) m) E) E := by simp only [evs, wp_bind, wp_ok]
@[simp] theorem w_ev_call (f : Nat) (as : List Ex) : (ev F (.call f as) ρ m).wp Q E = (evs F as ρ m).wp (fun xs m => OS (handAll xs) fun xs => (F.call f xs m).wp Q E) E := by
  simp only [ev, wp_bind]; congr; funext xs m; cases handAll xs <;> with_unfolding_all rfl
@[simp] theorem w_ev_bi (b : Bi) (as : List Ex) : (ev F (.bi b as) ρ m).wp Q E = (evs F as ρ m).wp (fun xs m => OS (biW b xs m) fun w => Q w m) E := by simp only [ev, wp_bind, wp_of]
@[simp] theorem w_ev_mt (t : Mt) (o : Ex) (as : List Ex) : (ev F (.mt t o as) ρ m).wp Q E = (ev F o ρ m).wp (fun x m => recvOk t x m = true ∧ (evs F as ρ m).wp (fun xs m => (mtW t x xs m).wp Q E) E) E := by
  simp only [ev, wp_bind]; congr; funext x m
  cases recvOk t x m <;> simp
@[simp] theorem w_ev_isi (a : Ex) (ts : List Ty) : (ev F (.isi a ts) ρ m).wp Q E = (ev F a ρ m).wp (fun x m => OS (isiW F.sub m ts x) fun b => Q (.d (.bool b)) m) E := by simp only [ev, wp_bind, wp_of, okB, OS_map]
@[simp] theorem w_ev_rng (as : List Ex) : (ev F (.rng as) ρ m).wp Q E = (evs F as ρ m).wp (fun xs m => OS (rngW xs) fun w => Q w m) E := by simp only [ev, wp_bind, wp_of]
/-- a comprehension's turn -/
def lcBody (F : Cs) (el : Ex) (own : List Nat) (tg : Tg) (co : List Ex) (ρ : En) (x : PyData) (m : Mem) : R (Option PyData) := match tgSet tg x (wipeE ρ own) with
      | some ρ' => (trAll F co ρ' m).bind fun b m => if b then (ev F el ρ' m).bind fun y m => .of m ((laid y).map some) else .ok none m
      | none => .bad
@[simp] theorem w_ev_lc (el : Ex) (own : List Nat) (tg : Tg) (it : Ex) (co : List Ex) : (ev F (.lc el own tg it co) ρ m).wp Q E = (ev F it ρ m).wp (fun w m => OS (items m w) fun xs => (lcGo (lcBody F el own tg co ρ) addL xs [] (lockM m (lockOf m w))).wp (fun r m' => Q (.new r) (unlockM m' (lockOf m w))) noE) E := by
  simp only [ev, wp_bind, lcWalk_wp, wp_ok]; with_unfolding_all rfl
theorem lcBody_wp (el : Ex) (own : List Nat) (tg : Tg) (co : List Ex) (x : PyData) (Q : Option PyData → Mem → Prop) : (lcBody F el own tg co ρ x m).wp Q E = OS (tgSet tg x (wipeE ρ own)) fun ρ' => (trAll F co ρ' m).wp (fun b m => (b = true → (ev F el ρ' m).wp (fun y m => OS (laid y) fun y => Q (some y) m) E) ∧ (b = false → Q none m)) E := by
  unfold lcBody
  cases tgSet tg x (wipeE ρ own) with
  | none => with_unfolding_all rfl
  | some ρ' =>
    simp only [wp_bind, OS_some]; congr; funext b m
    cases b <;> simp [OS_map]
@[simp] theorem w_trAll_nil (Q : Bool → Mem → Prop) : (trAll F [] ρ m).wp Q E = Q true m := by simp only [trAll, wp_ok]
@[simp] theorem trAll_cons (e : Ex) (es : List Ex) (Q : Bool → Mem → Prop) : (trAll F (e :: es) ρ m).wp Q E = (ev F e ρ m).wp (fun w m => OS (truth m w) fun b => (b = true → (trAll F es ρ m).wp Q E) ∧ (b = false → Q false m)) E := by
  simp only [trAll, wp_bind, wp_of]; congr; funext w m
  cases truth m w with
  | none => with_unfolding_all rfl
  | some t => cases t <;> simp
/-- a set's turn -/
def scBody (F : Cs) (el : Ex) (own : List Nat) (tg : Tg) (co : List Ex) (ρ : En) (x : PyData) (m : Mem) : R (Option Str) := match tgSet tg x (wipeE ρ own) with
      | some ρ' => (trAll F co ρ' m).bind fun b m => if b then (ev F el ρ' m).bind fun y m => match y with
          | .d (.str k) => .ok (some k) m
          | _ => .bad
        else .ok none m
      | none => .bad
@[simp] theorem ev_sclen (el : Ex) (own : List Nat) (tg : Tg) (it : Ex) (co : List Ex) : (ev F (.sclen el own tg it co) ρ m).wp Q E = (ev F it ρ m).wp (fun w m => OS (items m w) fun xs => (lcGo (scBody F el own tg co ρ) addS xs [] (lockM m (lockOf m w))).wp (fun r m' => Q (.d (.int r.length)) (unlockM m' (lockOf m w))) noE) E := by
  simp only [ev, wp_bind, lcWalk_wp, wp_ok]; with_unfolding_all rfl
def W.st (w : W) (P : Str → Prop) : Prop := match w with
  | .d (.str k) => P k
  | _ => False
@[simp] theorem st_s (k : Str) (P : Str → Prop) : (W.d (.str k)).st P = P k := id rfl
theorem scBody_wp (el : Ex) (own : List Nat) (tg : Tg) (co : List Ex) (x : PyData) (Q : Option Str → Mem → Prop) : (scBody F el own tg co ρ x m).wp Q E = OS (tgSet tg x (wipeE ρ own)) fun ρ' => (trAll F co ρ' m).wp (fun b m => (b = true → (ev F el ρ' m).wp (fun y m => y.st fun k => Q (some k) m) E) ∧ (b = false → Q none m)) E := by
  unfold scBody
  cases tgSet tg x (wipeE ρ own) with
  | none => with_unfolding_all rfl
  | some ρ' =>
    simp only [wp_bind, OS_some]; congr; funext b m
    cases b with
    | false => simp
    | true =>
      simp only [wp_bind, if_true, true_implies, reduceCtorEq, false_implies, and_true]; congr; funext y m
      cases y with
      | d x => cases x <;> with_unfolding_all rfl
      | _ => with_unfolding_all rfl
end
theorem R.eq_of_wp {α : Type} {r : R α} {a : α} {m : Mem} (h : r.wp (fun a' m' => a' = a ∧ m' = m) noE) : r = .ok a m := by
  cases r with
  | ok a' m' => rw [wp_ok] at h; obtain ⟨rfl, rfl⟩ := h; rfl
  | exc c m' => with_unfolding_all exact h.elim
  | bad => with_unfolding_all exact h.elim
theorem R.exc_of_wp {α : Type} {r : R α} {c : Nat} {m : Mem} (h : r.wp (fun _ _ => False) (fun c' m' => c' = c ∧ m' = m)) : r = .exc c m := by
  cases r with
  | ok a' m' => with_unfolding_all exact h.elim
  | exc c m' => rw [wp_exc] at h; obtain ⟨rfl, rfl⟩ := h; rfl
  | bad => with_unfolding_all exact h.elim
/-! ### operations at what is known -/
@[simp] theorem truth_b (m : Mem) (b : Bool) : truth m (.d (.bool b)) = some b := id rfl
@[simp] theorem items_tup (m : Mem) (xs : List PyData) : items m (.d (.tuple xs)) = some xs := id rfl
@[simp] theorem items_lst (m : Mem) (xs : List PyData) : items m (.d (.list xs)) = some xs := id rfl
@[simp] theorem items_new (m : Mem) (xs : List PyData) : items m (.new xs) = some xs := id rfl
@[simp] theorem items_str (m : Mem) (x : Str) : items m (.d (.str x)) = some (signs x) := id rfl
@[simp] theorem items_it (m : Mem) (xs : List PyData) : items m (.it xs) = some xs := id rfl
@[simp] theorem items_ro (m : Mem) (xs : List PyData) : items m (.ro xs) = some xs := id rfl
@[simp] theorem lock_d (m : Mem) (x : PyData) : lockOf m (.d x) = none := id rfl
@[simp] theorem lock_it (m : Mem) (x : List PyData) : lockOf m (.it x) = none := id rfl
@[simp] theorem lock_new (m : Mem) (x : List PyData) : lockOf m (.new x) = none := id rfl
@[simp] theorem lock_ro (m : Mem) (x : List PyData) : lockOf m (.ro x) = none := id rfl
@[simp] theorem lockM_none (m : Mem) : lockM m none = m := id rfl
@[simp] theorem unlockM_none (m : Mem) : unlockM m none = m := id rfl
@[simp] theorem laid_d (x : PyData) : laid (.d x) = some x := id rfl
@[simp] theorem laid_new (x : List PyData) : laid (.new x) = some (.list x) := id rfl
@[simp] theorem laid_newd (x : List (PyData × PyData)) : laid (.newd x) = some (.dict x) := id rfl
@[simp] theorem laidAll_nil : laidAll [] = some [] := id rfl
@[simp] theorem laidAll_d (x : PyData) (r : List W) : laidAll (.d x :: r) = (laidAll r).map fun xs => x :: xs := by simp only [laidAll, laid_d]; cases laidAll r <;> with_unfolding_all rfl
@[simp] theorem laidAll_new (x : List PyData) (r : List W) : laidAll (.new x :: r) = (laidAll r).map fun xs => .list x :: xs := by simp only [laidAll, laid_new]; cases laidAll r <;> with_unfolding_all rfl
@[simp] theorem laidAll_newd (x : List (PyData × PyData)) (r : List W) : laidAll (.newd x :: r) = (laidAll r).map fun xs => .dict x :: xs := by simp only [laidAll, laid_newd]; cases laidAll r <;> with_unfolding_all rfl
@[simp] theorem handAll_nil : handAll [] = some [] := id rfl
@[simp] theorem handAll_d (x : PyData) (r : List W) : handAll (.d x :: r) = (handAll r).map fun xs => .d x :: xs := by simp only [handAll, handed]; cases handAll r <;> with_unfolding_all rfl
@[simp] theorem handAll_new (x : List PyData) (r : List W) : handAll (.new x :: r) = (handAll r).map fun xs => .d (.list x) :: xs := by simp only [handAll, handed]; cases handAll r <;> with_unfolding_all rfl
@[simp] theorem handAll_ref (x : Nat) (r : List W) : handAll (.ref x :: r) = (handAll r).map fun xs => .ref x :: xs := by simp only [handAll, handed]; cases handAll r <;> with_unfolding_all rfl
@[simp] theorem handAll_ro (x : List PyData) (r : List W) : handAll (.ro x :: r) = (handAll r).map fun xs => .ro x :: xs := by simp only [handAll, handed]; cases handAll r <;> with_unfolding_all rfl
@[simp] theorem isi_d (sub : Nat → List Nat → Option Bool) (m : Mem) (ts : List Ty) (x : PyData) : isiW sub m ts (.d x) = if ts.any isCls then none else some (ts.any (isiD x)) := id rfl
@[simp] theorem isCls_int : isCls .int = false := id rfl
@[simp] theorem isCls_bool : isCls .bool = false := id rfl
@[simp] theorem isCls_str : isCls .str = false := id rfl
@[simp] theorem isCls_tuple : isCls .tuple = false := id rfl
@[simp] theorem isCls_list : isCls .list = false := id rfl
@[simp] theorem isCls_dict : isCls .dict = false := id rfl
@[simp] theorem isCls_cls (c : Nat) : isCls (.cls c) = true := id rfl
section
variable (m : Mem) (i j : Int) (x y : Str) (a b : List PyData)
@[simp] theorem add_ii : binW .Add (.d (.int i)) (.d (.int j)) m = some (.d (.int (i + j))) := id rfl
@[simp] theorem sub_ii : binW .Sub (.d (.int i)) (.d (.int j)) m = some (.d (.int (i - j))) := id rfl
@[simp] theorem mul_ii : binW .Mult (.d (.int i)) (.d (.int j)) m = if small64 i || small64 j then some (.d (.int (i * j))) else none := id rfl
@[simp] theorem div_ii : binW .FloorDiv (.d (.int i)) (.d (.int j)) m = if 0 < j ∧ j < 1073741824 then some (.d (.int (i / j))) else none := id rfl
@[simp] theorem mod_ii : binW .Mod (.d (.int i)) (.d (.int j)) m = if 0 < j then some (.d (.int (i % j))) else none := id rfl
@[simp] theorem pow_ii : binW .Pow (.d (.int i)) (.d (.int j)) m = if 0 ≤ j ∧ j ≤ 1000000 ∧ i.natAbs < 2 ^ 64 then some (.d (.int (i ^ j.toNat))) else none := id rfl
@[simp] theorem add_ss : binW .Add (.d (.str x)) (.d (.str y)) m = if x.length + y.length ≤ LINE then some (.d (.str (x ++ y))) else none := id rfl
@[simp] theorem add_tt : binW .Add (.d (.tuple a)) (.d (.tuple b)) m = if a.length + b.length ≤ LINE then some (.d (.tuple (a ++ b))) else none := id rfl
@[simp] theorem add_nn : binW .Add (.new a) (.new b) m = if a.length + b.length ≤ LINE then some (.new (a ++ b)) else none := id rfl
@[simp] theorem add_ln : binW .Add (.d (.list a)) (.new b) m = if a.length + b.length ≤ LINE then some (.new (a ++ b)) else none := id rfl
@[simp] theorem add_nl : binW .Add (.new a) (.d (.list b)) m = if a.length + b.length ≤ LINE then some (.new (a ++ b)) else none := id rfl
@[simp] theorem add_ll : binW .Add (.d (.list a)) (.d (.list b)) m = if a.length + b.length ≤ LINE then some (.new (a ++ b)) else none := id rfl
@[simp] theorem lt_ii : cmpW .Lt (.d (.int i)) (.d (.int j)) m = some (decide (i < j)) := id rfl
@[simp] theorem le_ii : cmpW .LtE (.d (.int i)) (.d (.int j)) m = some (decide (i ≤ j)) := id rfl
@[simp] theorem gt_ii : cmpW .Gt (.d (.int i)) (.d (.int j)) m = some (decide (j < i)) := id rfl
@[simp] theorem ge_ii : cmpW .GtE (.d (.int i)) (.d (.int j)) m = some (decide (j ≤ i)) := id rfl
@[simp] theorem eq_ii : cmpW .Eq (.d (.int i)) (.d (.int j)) m = some (i == j) := id rfl
@[simp] theorem ne_ii : cmpW .NotEq (.d (.int i)) (.d (.int j)) m = some (!(i == j)) := id rfl
@[simp] theorem eq_ss : cmpW .Eq (.d (.str x)) (.d (.str y)) m = some (x == y) := id rfl
@[simp] theorem ne_ss : cmpW .NotEq (.d (.str x)) (.d (.str y)) m = some (!(x == y)) := id rfl
@[simp] theorem eq_bb (p q : Bool) : cmpW .Eq (.d (.bool p)) (.d (.bool q)) m = some (p == q) := id rfl
@[simp] theorem ne_bb (p q : Bool) : cmpW .NotEq (.d (.bool p)) (.d (.bool q)) m = some (!(p == q)) := id rfl
@[simp] theorem eq_t0 : cmpW .Eq (.d (.tuple a)) (.d (.tuple [])) m = some a.isEmpty := by cases a <;> with_unfolding_all rfl
@[simp] theorem ne_t0 : cmpW .NotEq (.d (.tuple a)) (.d (.tuple [])) m = some (!a.isEmpty) := by cases a <;> with_unfolding_all rfl
@[simp] theorem in_ss : cmpW .In (.d (.str x)) (.d (.str y)) m = some (!(Builtin.Str.occurrences y x 0 y.length 1).isEmpty) := id rfl
@[simp] theorem nin_ss : cmpW .NotIn (.d (.str x)) (.d (.str y)) m = some (!!(Builtin.Str.occurrences y x 0 y.length 1).isEmpty) := id rfl
@[simp] theorem in_rod (k : List (PyData × PyData)) : cmpW .In (.d (.str x)) (.rod k) m = if strKeys k then some (lookS x k).isSome else none := id rfl
@[simp] theorem in_new (z : PyData) : cmpW .In (.d z) (.new a) m = inO z a := by cases z <;> with_unfolding_all rfl
@[simp] theorem nin_new (z : PyData) : cmpW .NotIn (.d z) (.new a) m = (inO z a).map fun b => !b := by cases z <;> with_unfolding_all rfl
@[simp] theorem in_tup (z : PyData) : cmpW .In (.d z) (.d (.tuple a)) m = inO z a := by cases z <;> with_unfolding_all rfl
@[simp] theorem in_lst (z : PyData) : cmpW .In (.d z) (.d (.list a)) m = inO z a := by cases z <;> with_unfolding_all rfl
@[simp] theorem len_s : biW .len [.d (.str x)] m = some (.d (.int x.length)) := id rfl
@[simp] theorem len_t : biW .len [.d (.tuple a)] m = some (.d (.int a.length)) := id rfl
@[simp] theorem len_l : biW .len [.d (.list a)] m = some (.d (.int a.length)) := id rfl
@[simp] theorem len_n : biW .len [.new a] m = some (.d (.int a.length)) := id rfl
@[simp] theorem len_ro : biW .len [.ro a] m = some (.d (.int a.length)) := id rfl
@[simp] theorem max2_ii : biW .max2 [.d (.int i), .d (.int j)] m = some (.d (.int (if j > i then j else i))) := id rfl
@[simp] theorem min2_ii : biW .min2 [.d (.int i), .d (.int j)] m = some (.d (.int (if j < i then j else i))) := id rfl
@[simp] theorem int_b (p : Bool) : biW .int [.d (.bool p)] m = some (.d (.int (if p then 1 else 0))) := id rfl
@[simp] theorem ix_t : ixW (.d (.tuple a)) (.d (.int i)) m = (atI a i).map .d := id rfl
@[simp] theorem ix_l : ixW (.d (.list a)) (.d (.int i)) m = (atI a i).map .d := id rfl
@[simp] theorem ix_n : ixW (.new a) (.d (.int i)) m = (atI a i).map .d := id rfl
@[simp] theorem ix_ro : ixW (.ro a) (.d (.int i)) m = (atI a i).map .d := id rfl
@[simp] theorem ix_s : ixW (.d (.str x)) (.d (.int i)) m = (atI x.cps.toList i).map fun c => .d (.str ⟨#[c]⟩) := id rfl
@[simp] theorem sl_t (lo hi : Option Int) : slW (.d (.tuple a)) lo hi m = some (.d (.tuple (cut a lo hi))) := id rfl
@[simp] theorem sl_s (lo hi : Option Int) : slW (.d (.str x)) lo hi m = some (.d (.str (cutStr x lo hi))) := id rfl
@[simp] theorem intO_nil : intO [] = some none := id rfl
@[simp] theorem intO_i : intO [.d (.int i)] = some (some i) := id rfl
end
@[simp] theorem set_last (m : Mem) (c d : MO) : (m ++ [c]).set m.length d = m ++ [d] := by rw [List.set_append_right _ _ (Nat.le_refl _)]; simp
@[simp] theorem get_last (m : Mem) (c : MO) : (m ++ [c])[m.length]? = some c := by simp
@[simp] theorem take_last (m : Mem) (c : MO) : (m ++ [c]).take m.length = m := by simp
theorem in_ref {m : Mem} {n : Nat} {ys : List PyData} (z : PyData) (h : m[n]? = some (.lst ys)) : cmpW .In (.d z) (.ref n) m = inO z ys := by
  have e : listOf m (.ref n) = some ys := by simp only [listOf, h]
  cases z <;> simp only [cmpW, cmpW.inW, e]
theorem nin_ref {m : Mem} {n : Nat} {ys : List PyData} (z : PyData) (h : m[n]? = some (.lst ys)) : cmpW .NotIn (.d z) (.ref n) m = (inO z ys).map fun b => !b := by
  rw [← in_ref z h]; cases z <;> with_unfolding_all rfl
theorem append_wp {m : Mem} {n : Nat} {ys : List PyData} (z : PyData) (h : m[n]? = some (.lst ys)) (hl : ys.length < LINE) : mtW .append (.ref n) [.d z] m = .ok (.d .none) (m.set n (.lst (ys ++ [z]))) := by
  simp only [mtW, h, laid, if_pos hl]
theorem recv_append {m : Mem} {n : Nat} {ys : List PyData} (h : m[n]? = some (.lst ys)) : recvOk .append (.ref n) m = true := by simp only [recvOk, h]
theorem ix_ref {m : Mem} {n : Nat} {ys : List PyData} (i : Int) (h : m[n]? = some (.lst ys)) : ixW (.ref n) (.d (.int i)) m = (atI ys i).map .d := by
  have e : listR m (.ref n) = some ys := by simp only [listR, listOf, h]
  simp only [ixW, e]
theorem put_ref {m : Mem} {n : Nat} {ys : List PyData} (i : Int) (z : PyData) (h : m[n]? = some (.lst ys)) : putW (.ref n) (.d (.int i)) (.d z) m = (ixN ys.length i).map fun j => m.set n (.lst (ys.set j z)) := by
  simp only [putW, laid, h]
theorem atI_nat {α : Type} {xs : List α} {i : Int} (h0 : 0 ≤ i) (h : i.toNat < xs.length) : atI xs i = some (xs[i.toNat]'h) := by
  unfold atI ixN
  rw [if_pos h0, if_pos (by omega)]
  simp [h]
/-! ### turns -/
/-- each turn gives what h says and leaves all as it is -/
theorem lcGo_pure {β γ : Type} {f : PyData → Mem → R (Option β)} {add : β → γ → Option γ} {g : γ → PyData → Option γ} {m : Mem} {Q : γ → Mem → Prop} {E : Nat → Mem → Prop} :
    ∀ (xs : List PyData) (acc : γ), (∀ x ∈ xs, ∀ acc', (f x m).wp (fun o m' => m' = m ∧ (match o with | none => g acc' x = some acc' | some y => add y acc' = g acc' x)) noE) →
      (∀ r, xs.foldlM g acc = some r → Q r m) → (∃ r, xs.foldlM g acc = some r) → (lcGo f add xs acc m).wp Q E
  | [], acc, _, hq, _ => by with_unfolding_all exact hq acc rfl
  | x :: xs, acc, hf, hq, hr => by
    unfold lcGo
    have h0 := hf x (by simp) acc
    rw [wp_bind]
    refine R.wp_mono h0 ?_ (fun _ _ h => h.elim)
    rintro o m' ⟨rfl, ho⟩
    have hd : ∀ acc', g acc x = some acc' → (lcGo f add xs acc' m').wp Q E := fun acc' e => by
      refine lcGo_pure xs acc' (fun y hy a => hf y (by simp [hy]) a) (fun r hrr => hq r ?_) ?_
      · rw [List.foldlM_cons, e]; with_unfolding_all exact hrr
      · obtain ⟨r, hr⟩ := hr; rw [List.foldlM_cons, e] at hr; with_unfolding_all exact ⟨r, hr⟩
    cases o with
    | none => with_unfolding_all exact hd acc ho
    | some y =>
      unfold lcAdd
      with_unfolding_all show R.wp (match add y acc with | some acc => lcGo f add xs acc m' | none => .bad) Q E
      cases hg : g acc x with
      | none => obtain ⟨r, hr⟩ := hr; rw [List.foldlM_cons, hg] at hr; cases hr
      | some acc' =>
        simp only [show add y acc = some acc' from ho.trans hg]
        with_unfolding_all exact hd acc' hg
/-- a list of what each turn gives -/
theorem lcGo_list {f : PyData → Mem → R (Option PyData)} (h : PyData → Option PyData) {m : Mem} {Q : List PyData → Mem → Prop} {E : Nat → Mem → Prop} :
    ∀ (xs acc : List PyData), acc.length + xs.length ≤ LINE → (∀ x ∈ xs, (f x m).wp (fun o m' => m' = m ∧ o = h x) noE) → Q (acc ++ xs.filterMap h) m → (lcGo f addL xs acc m).wp Q E
  | [], acc, _, _, hq => by simpa [lcGo] using hq
  | x :: xs, acc, hl, hf, hq => by
    unfold lcGo
    rw [wp_bind]
    refine R.wp_mono (hf x (by simp)) ?_ (fun _ _ h => h.elim)
    rintro o m' ⟨rfl, rfl⟩
    simp only [List.length_cons] at hl
    cases hx : h x with
    | none =>
      refine lcGo_list h xs acc (by omega) (fun y hy => hf y (by simp [hy])) ?_
      simpa [List.filterMap_cons, hx] using hq
    | some y =>
      unfold lcAdd
      have : addL y acc = some (acc ++ [y]) := by unfold addL; rw [if_pos (by omega)]
      simp only [this]
      refine lcGo_list h xs (acc ++ [y]) (by simp; omega) (fun y hy => hf y (by simp [hy])) ?_
      simpa [List.filterMap_cons, hx] using hq
theorem lcGo_map {f : PyData → Mem → R (Option PyData)} (h : PyData → PyData) {m : Mem} {Q : List PyData → Mem → Prop} {E : Nat → Mem → Prop} (xs : List PyData) (hl : xs.length ≤ LINE) (hf : ∀ x ∈ xs, (f x m).wp (fun o m' => m' = m ∧ o = some (h x)) noE) (hq : Q (xs.map h) m) : (lcGo f addL xs [] m).wp Q E :=
  lcGo_list (fun x => some (h x)) xs [] (by simpa using hl) hf (by simpa [List.filterMap_eq_map] using hq)
/-- turns that change the memory: by an invariant -/
theorem lcGo_inv {β γ : Type} {f : PyData → Mem → R (Option β)} {add : β → γ → Option γ} (I : Nat → γ → Mem → Prop) {Q : γ → Mem → Prop} {E : Nat → Mem → Prop} :
    ∀ (xs : List PyData) (j : Nat) (acc : γ) (m : Mem), I j acc m → (∀ i x acc m, xs[i]? = some x → I (j + i) acc m → (f x m).wp (fun o m' => match o with | none => I (j + i + 1) acc m' | some y => OS (add y acc) fun acc' => I (j + i + 1) acc' m') E) → (∀ acc m, I (j + xs.length) acc m → Q acc m) → (lcGo f add xs acc m).wp Q E
  | [], j, acc, m, hi, _, hq => by with_unfolding_all exact hq acc m hi
  | x :: xs, j, acc, m, hi, hf, hq => by
    unfold lcGo
    rw [wp_bind]
    refine R.wp_mono (hf 0 x acc m rfl hi) ?_ (fun _ _ h => h)
    intro o m' ho
    have hd : ∀ acc' m', I (j + 1) acc' m' → (lcGo f add xs acc' m').wp Q E := fun acc' m' hi' => by
      refine lcGo_inv I xs (j + 1) acc' m' hi' (fun i x acc m hx h => ?_) (fun acc m h => hq acc m ?_)
      · have := hf (i + 1) x acc m (by simpa using hx) (by rwa [show j + (i + 1) = j + 1 + i by omega])
        rw [show j + (i + 1) + 1 = j + 1 + i + 1 by omega] at this
        with_unfolding_all exact this
      · rwa [List.length_cons, show j + (xs.length + 1) = j + 1 + xs.length by omega]
    cases o with
    | none => with_unfolding_all exact hd acc m' ho
    | some y =>
      with_unfolding_all show R.wp (match add y acc with | some acc => lcGo f add xs acc m' | none => .bad) Q E
      cases ha : add y acc with
      | none => simp [ha] at ho
      | some acc' => simp only [ha, OS_some] at ho; with_unfolding_all exact hd acc' m' ho
/-! ### statements -/
section
variable (F : Cs) (Q : Fl → En → Mem → Prop) (E : Nat → En → Mem → Prop) (ρ : En) (m : Mem)
@[simp] theorem swp_ok (f : Fl) (ρ : En) (m : Mem) : (RS.ok f ρ m).wp Q E = Q f ρ m := id (by with_unfolding_all rfl)
@[simp] theorem swp_exc (c : Nat) (ρ : En) (m : Mem) : (RS.exc c ρ m).wp Q E = E c ρ m := id (by with_unfolding_all rfl)
@[simp] theorem swp_bad : RS.bad.wp Q E = False := id (by with_unfolding_all rfl)
@[simp] theorem swp_then {α : Type} (r : R α) (f : α → Mem → RS) : (r.then ρ f).wp Q E = r.wp (fun a m => (f a m).wp Q E) (fun c m => E c ρ m) := by cases r <;> with_unfolding_all rfl
theorem RS.wp_mono {r : RS} {Q Q' : Fl → En → Mem → Prop} {E E' : Nat → En → Mem → Prop} (h : r.wp Q' E') (h1 : ∀ a ρ m, Q' a ρ m → Q a ρ m) (h2 : ∀ c ρ m, E' c ρ m → E c ρ m) : r.wp Q E := by
  cases r with
  | ok a ρ m => with_unfolding_all exact h1 a ρ m h
  | exc c ρ m => with_unfolding_all exact h2 c ρ m h
  | bad => with_unfolding_all exact h
@[simp] theorem w_exs_nil : (exs F [] ρ m).wp Q E = Q .nx ρ m := by simp only [exs, swp_ok]
theorem w_exs_cons (s : Sm) (r : List Sm) : (exs F (s :: r) ρ m).wp Q E = (ex F s ρ m).wp (fun f ρ m => f.nxt ((exs F r ρ m).wp Q E) (Q f ρ m)) E := by
  simp only [exs]
  cases ex F s ρ m with
  | ok f ρ m => cases f <;> with_unfolding_all rfl
  | _ => with_unfolding_all rfl
theorem exs_step (s : Sm) (r : List Sm) (h : (ex F s ρ m).wp (fun f ρ m => f.nxt ((exs F r ρ m).wp Q E) (Q f ρ m)) E) : (exs F (s :: r) ρ m).wp Q E := (w_exs_cons F Q E ρ m s r).mpr h
@[simp] theorem ex_set (i : Nat) (e : Ex) (c : Bool) : (ex F (.set i e c) ρ m).wp Q E = (ev F e ρ m).wp (fun w m => (store i c w ρ m).wp Q E) (fun c m => E c ρ m) := by simp only [ex, swp_then]
@[simp] theorem st_d (i : Nat) (c : Bool) (x : PyData) : (store i c (.d x) ρ m).wp Q E = Q .nx (ρ.set i (some (.d x))) m := id (by with_unfolding_all rfl)
@[simp] theorem st_newT (i : Nat) (xs : List PyData) : (store i true (.new xs) ρ m).wp Q E = Q .nx (ρ.set i (some (.ref m.length))) (m ++ [.lst xs]) := id (by with_unfolding_all rfl)
@[simp] theorem st_newF (i : Nat) (xs : List PyData) : (store i false (.new xs) ρ m).wp Q E = Q .nx (ρ.set i (some (.d (.list xs)))) m := id (by with_unfolding_all rfl)
@[simp] theorem st_newdT (i : Nat) (xs : List (PyData × PyData)) : (store i true (.newd xs) ρ m).wp Q E = Q .nx (ρ.set i (some (.ref m.length))) (m ++ [.dic xs]) := id (by with_unfolding_all rfl)
@[simp] theorem st_newdF (i : Nat) (xs : List (PyData × PyData)) : (store i false (.newd xs) ρ m).wp Q E = Q .nx (ρ.set i (some (.d (.dict xs)))) m := id (by with_unfolding_all rfl)
@[simp] theorem st_ref (i : Nat) (c : Bool) (n : Nat) : (store i c (.ref n) ρ m).wp Q E = Q .nx (ρ.set i (some (.ref n))) m := id (by with_unfolding_all rfl)
@[simp] theorem st_ro (i : Nat) (c : Bool) (xs : List PyData) : (store i c (.ro xs) ρ m).wp Q E = Q .nx (ρ.set i (some (.ro xs))) m := id (by with_unfolding_all rfl)
@[simp] theorem ex_unp (tg : Tg) (e : Ex) : (ex F (.unp tg e) ρ m).wp Q E = (ev F e ρ m).wp (fun w m => OS (laid w) fun x => OS (tgSet tg x ρ) fun ρ => Q .nx ρ m) (fun c m => E c ρ m) := by
  simp only [ex, swp_then]; congr; funext w m
  cases laid w with
  | none => with_unfolding_all rfl
  | some x => simp only [OS_some]; cases tgSet tg x ρ <;> with_unfolding_all rfl
@[simp] theorem ex_put (o i e : Ex) : (ex F (.put o i e) ρ m).wp Q E = (ev F e ρ m).wp (fun w m => (ev F o ρ m).wp (fun x m => (ev F i ρ m).wp (fun y m => OS (putW x y w m) fun m => Q .nx ρ m) (fun c m => E c ρ m)) (fun c m => E c ρ m)) (fun c m => E c ρ m) := by
  simp only [ex, swp_then]; congr; funext w m; congr; funext x m; congr; funext y m
  cases putW x y w m <;> with_unfolding_all rfl
@[simp] theorem ex_ex (e : Ex) : (ex F (.ex e) ρ m).wp Q E = (ev F e ρ m).wp (fun w m => Q .nx ρ m) (fun c m => E c ρ m) := by simp only [ex, swp_then, swp_ok]
@[simp] theorem ex_ret (e : Ex) : (ex F (.ret e) ρ m).wp Q E = (ev F e ρ m).wp (fun w m => Q (.ret w) ρ m) (fun c m => E c ρ m) := by simp only [ex, swp_then, swp_ok]
@[simp] theorem ex_ite (c : Ex) (a b : List Sm) : (ex F (.ite c a b) ρ m).wp Q E = (ev F c ρ m).wp (fun w m => OS (truth m w) fun t => (t = true → (exs F a ρ m).wp Q E) ∧ (t = false → (exs F b ρ m).wp Q E)) (fun c m => E c ρ m) := by
  simp only [ex, swp_then]; congr; funext w m
  cases truth m w with
  | none => with_unfolding_all rfl
  | some t => cases t <;> simp
@[simp] theorem ex_for (tg : Tg) (it : Ex) (body : List Sm) : (ex F (.for tg it body) ρ m).wp Q E = (ev F it ρ m).wp (fun w m => OS (items m w) fun xs => (forGo tg (exs F body) xs ρ (lockM m (lockOf m w))).wp (fun f ρ m' => Q f ρ (unlockM m' (lockOf m w))) (fun c ρ m' => E c ρ (unlockM m' (lockOf m w)))) (fun c m => E c ρ m) := by
  simp only [ex, swp_then]; congr; funext w m
  cases items m w with
  | none => with_unfolding_all rfl
  | some xs => simp only [OS_some]; cases forGo tg (exs F body) xs ρ (lockM m (lockOf m w)) <;> with_unfolding_all rfl
@[simp] theorem ex_raise (c : Nat) : (ex F (.raise c) ρ m).wp Q E = E c ρ m := by simp only [ex, swp_exc]
@[simp] theorem ex_pass : (ex F .pass ρ m).wp Q E = Q .nx ρ m := by simp only [ex, swp_ok]
theorem exs_one (s : Sm) : (exs F [s] ρ m).wp Q E = (ex F s ρ m).wp Q E := by
  rw [w_exs_cons]
  cases ex F s ρ m with
  | ok f ρ m => cases f <;> simp
  | _ => with_unfolding_all rfl
@[simp] theorem ex_try (body : List Sm) (cs : List Nat) (x : Nat) (suite : List Sm) : (ex F (.try body cs x suite) ρ m).wp Q E = (exs F body ρ m).wp Q (fun c ρ m => OS (F.sub c cs) fun b => (b = true → ((exs F suite (ρ.set x (some (.exc c))) m).quit x).wp Q E) ∧ (b = false → E c ρ m)) := by
  simp only [ex]
  cases exs F body ρ m with
  | exc c ρ m =>
    simp only [swp_exc]
    cases F.sub c cs with
    | none => with_unfolding_all rfl
    | some b => cases b <;> simp
  | _ => with_unfolding_all rfl
theorem quit_wp (r : RS) (x : Nat) (h : r.wp (fun f ρ m => match f with | .ret (.exc _) => False | .ret w => Q (.ret w) (ρ.map unexc) m | f => Q f ((ρ.map unexc).set x none) m) noEn) : (r.quit x).wp Q E := by
  cases r with
  | ok f ρ m => cases f with
    | ret w => cases w <;> first | with_unfolding_all exact h | with_unfolding_all exact h.elim
    | _ => with_unfolding_all exact h
  | exc c ρ m => with_unfolding_all exact h.elim
  | bad => with_unfolding_all exact h
end
/-- the turns of a for, by an invariant; a turn may leave -/
theorem forGo_inv {tg : Tg} {body : En → Mem → RS} (I : Nat → En → Mem → Prop) {Q : Fl → En → Mem → Prop} {E : Nat → En → Mem → Prop} :
    ∀ (xs : List PyData) (j : Nat) (ρ : En) (m : Mem), I j ρ m → (∀ i x ρ m, xs[i]? = some x → I (j + i) ρ m → OS (tgSet tg x ρ) fun ρ => (body ρ m).wp (fun f ρ m => match f with | .nx => I (j + i + 1) ρ m | .cnt => I (j + i + 1) ρ m | .brk => Q .nx ρ m | .ret w => Q (.ret w) ρ m) E) → (∀ ρ m, I (j + xs.length) ρ m → Q .nx ρ m) → (forGo tg body xs ρ m).wp Q E
  | [], j, ρ, m, hi, _, hq => by with_unfolding_all exact hq ρ m hi
  | x :: xs, j, ρ, m, hi, hf, hq => by
    unfold forGo
    have h0 := hf 0 x ρ m rfl hi
    have hd : ∀ ρ m', I (j + 1) ρ m' → (forGo tg body xs ρ m').wp Q E := fun ρ m' hi' => by
      refine forGo_inv I xs (j + 1) ρ m' hi' (fun i x ρ m hx h => ?_) (fun ρ m h => hq ρ m ?_)
      · have := hf (i + 1) x ρ m (by simpa using hx) (by rwa [show j + (i + 1) = j + 1 + i by omega])
        rw [show j + (i + 1) + 1 = j + 1 + i + 1 by omega] at this
        with_unfolding_all exact this
      · rwa [List.length_cons, show j + (xs.length + 1) = j + 1 + xs.length by omega]
    cases ht : tgSet tg x ρ with
    | none => rw [ht] at h0; with_unfolding_all exact h0
    | some ρ1 =>
      rw [ht, OS_some] at h0
      with_unfolding_all show RS.wp (match body ρ1 m with | .ok .nx ρ m => forGo tg body xs ρ m | .ok .cnt ρ m => forGo tg body xs ρ m | .ok .brk ρ m => .ok .nx ρ m | r => r) Q E
      cases hb : body ρ1 m with
      | ok f ρ2 m2 => rw [hb] at h0; cases f with
        | nx => with_unfolding_all exact hd _ _ h0
        | cnt => with_unfolding_all exact hd _ _ h0
        | brk => with_unfolding_all exact h0
        | ret w => with_unfolding_all exact h0
      | exc c ρ2 m2 => rw [hb] at h0; with_unfolding_all exact h0
      | bad => rw [hb] at h0; with_unfolding_all exact h0
section
variable (P : Pg) (k : Nat) (Q : W → Mem → Prop) (E : Nat → Mem → Prop) (m : Mem)
theorem callF_wp {f : Fn} {i : Nat} {as : List W} (hf : P.fns[i]? = some f) (ha : as.length = f.np)
    (h : (exs (P.cs (callF P k)) f.body (as.map some ++ List.replicate (f.nl - f.np) none) m).wp (fun fl _ m' => match fl with | .nx => (finish m.length (.d .none) m').wp Q E | .ret w => (finish m.length w m').wp Q E | _ => False) (fun c _ m' => E c (m'.take m.length))) : (callF P (k + 1) i as m).wp Q E := by
  unfold callF
  rw [hf]
  with_unfolding_all show (runF (P.cs (callF P k)) f as m).wp Q E
  unfold runF
  rw [if_pos ha]
  revert h
  cases exs (P.cs (callF P k)) f.body (as.map some ++ List.replicate (f.nl - f.np) none) m with
  | ok fl ρ m' => cases fl <;> with_unfolding_all exact fun h => h
  | exc c ρ m' => with_unfolding_all exact fun h => h
  | bad => with_unfolding_all exact fun h => h
@[simp] theorem fin_d (n : Nat) (x : PyData) : (finish n (.d x) m).wp Q E = Q (.d x) (m.take n) := id (by with_unfolding_all rfl)
@[simp] theorem fin_new (n : Nat) (x : List PyData) : (finish n (.new x) m).wp Q E = Q (.new x) (m.take n) := id (by with_unfolding_all rfl)
@[simp] theorem fin_newd (n : Nat) (x : List (PyData × PyData)) : (finish n (.newd x) m).wp Q E = Q (.newd x) (m.take n) := id (by with_unfolding_all rfl)
theorem fin_own (n j : Nat) (xs : List PyData) (h : n ≤ j) (h2 : m[j]? = some (.lst xs)) : (finish n (.ref j) m).wp Q E = Q (.new xs) (m.take n) := by
  with_unfolding_all show R.wp (if j < n then _ else _) Q E = _
  rw [if_neg (by omega), h2]; with_unfolding_all rfl
@[simp] theorem cs_call (c : Nat → List W → Mem → R W) : (P.cs c).call = c := id rfl
@[simp] theorem cs_sub (c : Nat → List W → Mem → R W) : (P.cs c).sub = P.sub := id rfl
@[simp] theorem cs_turns (c : Nat → List W → Mem → R W) : (P.cs c).turns = P.turns := id rfl
end
end Lo
/-! The calculus: dict comprehensions, two clauses, names put at once. -/
namespace Lo
open PySem
/-- a dict's turn -/
def dcBody (F : Cs) (k v : Ex) (own : List Nat) (tg : Tg) (co : List Ex) (ρ : En) (x : PyData) (m : Mem) : R (Option (Str × PyData)) := match tgSet tg x (wipeE ρ own) with
      | some ρ' => (trAll F co ρ' m).bind fun b m => if b then (ev F k ρ' m).bind fun y m => (ev F v ρ' m).bind fun z m => match y, laid z with
          | .d (.str k), some z => .ok (some (k, z)) m
          | _, _ => .bad
        else .ok none m
      | none => .bad
@[simp] theorem w_ev_dc (F : Cs) (Q : W → Mem → Prop) (E : Nat → Mem → Prop) (ρ : En) (m : Mem) (k v : Ex) (own : List Nat) (tg : Tg) (it : Ex) (co : List Ex) : (ev F (.dc k v own tg it co) ρ m).wp Q E = (ev F it ρ m).wp (fun w m => OS (items m w) fun xs => (lcGo (dcBody F k v own tg co ρ) addD xs [] (lockM m (lockOf m w))).wp (fun r m' => Q (.newd r) (unlockM m' (lockOf m w))) noE) E := by
  simp only [ev, wp_bind, lcWalk_wp, wp_ok]; with_unfolding_all rfl
theorem dcBody_wp (F : Cs) (E : Nat → Mem → Prop) (ρ : En) (m : Mem) (k v : Ex) (own : List Nat) (tg : Tg) (co : List Ex) (x : PyData) (Q : Option (Str × PyData) → Mem → Prop) : (dcBody F k v own tg co ρ x m).wp Q E = OS (tgSet tg x (wipeE ρ own)) fun ρ' => (trAll F co ρ' m).wp (fun b m => (b = true → (ev F k ρ' m).wp (fun y m => (ev F v ρ' m).wp (fun z m => y.st fun s => OS (laid z) fun z => Q (some (s, z)) m) E) E) ∧ (b = false → Q none m)) E := by
  unfold dcBody
  cases tgSet tg x (wipeE ρ own) with
  | none => with_unfolding_all rfl
  | some ρ' =>
    simp only [wp_bind, OS_some]; congr; funext b m
    cases b with
    | false => simp
    | true =>
      simp only [wp_bind, if_true, true_implies, reduceCtorEq, false_implies, and_true]; congr; funext y m; congr; funext z m
      cases y with
      | d y => cases y <;> first | with_unfolding_all rfl | (cases laid z <;> with_unfolding_all rfl)
      | _ => with_unfolding_all rfl
theorem star1_wp (F : Cs) (Q : Fl → En → Mem → Prop) (E : Nat → En → Mem → Prop) (ρ : En) (m : Mem) (a r : Nat) (e : Ex) {x : PyData} {xs : List PyData} {m' : Mem} (h : ev F e ρ m = .ok (.d (.tuple (x :: xs))) m') (hq : Q .nx ((ρ.set a (some (.d x))).set r (some (.d (.list xs)))) m') : (ex F (.star1 a r e) ρ m).wp Q E := by
  simp only [ex, h]; with_unfolding_all exact hq
@[simp] theorem ex_par (F : Cs) (Q : Fl → En → Mem → Prop) (E : Nat → En → Mem → Prop) (ρ : En) (m : Mem) (is : List Nat) (es : List Ex) : (ex F (.par is es) ρ m).wp Q E = (evs F es ρ m).wp (fun ws m => OS (laidAll ws) fun ds => is.length = ds.length ∧ Q .nx (setMany is ds ρ) m) (fun c m => E c ρ m) := by
  simp only [ex, swp_then]; congr; funext ws m
  unfold parE
  cases laidAll ws with
  | none => with_unfolding_all rfl
  | some ds =>
    simp only [OS_some]
    by_cases h : is.length = ds.length
    · simp [h]
    · simp [h]
/-- a two-clause comprehension's turn -/
def lc2Body (F : Cs) (el : Ex) (own : List Nat) (tg : Tg) (co : List Ex) (own1 : List Nat) (tg1 : Tg) (it1 : Ex) (co1 : List Ex) (ρ : En) (x : PyData) (acc : List PyData) (m : Mem) : R (List PyData) := match tgSet tg x (wipeE ρ own) with
      | some ρ' => (trAll F co ρ' m).bind fun b m => if b then (ev F it1 ρ' m).bind fun w1 m => match itemsZ w1 with
          | some ys => lcGo (lcBody F el own1 tg1 co1 ρ') addL ys acc m
          | none => .bad
        else .ok acc m
      | none => .bad
theorem lc2Walk_wp {γ : Type} (f : PyData → γ → Mem → R γ) (acc : γ) (w : W) (m : Mem) (Q : γ → Mem → Prop) (E : Nat → Mem → Prop) : (lc2Walk f acc w m).wp Q E = OS (items m w) fun xs => (lc2Go f xs acc (lockM m (lockOf m w))).wp (fun r m' => Q r (unlockM m' (lockOf m w))) noE := by
  unfold lc2Walk
  cases items m w with
  | none => with_unfolding_all rfl
  | some xs => simp only [OS_some]; cases lc2Go f xs acc (lockM m (lockOf m w)) <;> with_unfolding_all rfl
@[simp] theorem w_ev_lc2 (F : Cs) (Q : W → Mem → Prop) (E : Nat → Mem → Prop) (ρ : En) (m : Mem) (el : Ex) (own : List Nat) (tg : Tg) (it : Ex) (co : List Ex) (own1 : List Nat) (tg1 : Tg) (it1 : Ex) (co1 : List Ex) : (ev F (.lc2 el own tg it co own1 tg1 it1 co1) ρ m).wp Q E = (ev F it ρ m).wp (fun w m => OS (items m w) fun xs => (lc2Go (lc2Body F el own tg co own1 tg1 it1 co1 ρ) xs [] (lockM m (lockOf m w))).wp (fun r m' => Q (.new r) (unlockM m' (lockOf m w))) noE) E := by
  simp only [ev, wp_bind, lc2Walk_wp, wp_ok]; with_unfolding_all rfl
theorem lc2Body_wp (F : Cs) (E : Nat → Mem → Prop) (el : Ex) (own : List Nat) (tg : Tg) (co : List Ex) (own1 : List Nat) (tg1 : Tg) (it1 : Ex) (co1 : List Ex) (ρ : En) (x : PyData) (acc : List PyData) (m : Mem) (Q : List PyData → Mem → Prop) : (lc2Body F el own tg co own1 tg1 it1 co1 ρ x acc m).wp Q E = OS (tgSet tg x (wipeE ρ own)) fun ρ' => (trAll F co ρ' m).wp (fun b m => (b = true → (ev F it1 ρ' m).wp (fun w1 m => OS (itemsZ w1) fun ys => (lcGo (lcBody F el own1 tg1 co1 ρ') addL ys acc m).wp Q E) E) ∧ (b = false → Q acc m)) E := by
  unfold lc2Body
  cases tgSet tg x (wipeE ρ own) with
  | none => with_unfolding_all rfl
  | some ρ' =>
    simp only [wp_bind, OS_some]; congr; funext b m
    cases b with
    | false => simp
    | true =>
      simp only [wp_bind, if_true, true_implies, reduceCtorEq, false_implies, and_true]; congr; funext w1 m
      cases itemsZ w1 <;> with_unfolding_all rfl
/-- each turn puts g x to what is there -/
theorem lc2Go_flat {f : PyData → List PyData → Mem → R (List PyData)} (g : PyData → List PyData) {m : Mem} {Q : List PyData → Mem → Prop} {E : Nat → Mem → Prop} :
    ∀ (xs acc : List PyData), (∀ x ∈ xs, ∀ acc', (∃ s, acc' = acc ++ s ∧ acc'.length + (g x).length ≤ acc.length + (xs.flatMap g).length) → (f x acc' m).wp (fun r m' => r = acc' ++ g x ∧ m' = m) noE) → Q (acc ++ xs.flatMap g) m → (lc2Go f xs acc m).wp Q E
  | [], acc, _, hq => by simpa [lc2Go] using hq
  | x :: xs, acc, hf, hq => by
    unfold lc2Go
    rw [wp_bind]
    refine R.wp_mono (hf x (by simp) acc ⟨[], by simp, by simp [List.flatMap_cons]⟩) ?_ (fun _ _ h => h.elim)
    rintro r m' ⟨rfl, rfl⟩
    refine lc2Go_flat g xs (acc ++ g x) (fun y hy acc' ⟨s, e, hl⟩ => hf y (by simp [hy]) acc' ⟨g x ++ s, by rw [e]; simp, ?_⟩) (by simpa [List.flatMap_cons] using hq)
    rw [List.flatMap_cons, List.length_append]
    rw [List.length_append] at hl
    omega
@[simp] theorem itemsZ_tup (xs : List PyData) : itemsZ (.d (.tuple xs)) = some xs := id rfl
@[simp] theorem itemsZ_lst (xs : List PyData) : itemsZ (.d (.list xs)) = some xs := id rfl
@[simp] theorem itemsZ_new (xs : List PyData) : itemsZ (.new xs) = some xs := id rfl
@[simp] theorem itemsZ_it (xs : List PyData) : itemsZ (.it xs) = some xs := id rfl
end Lo
namespace Lo
namespace K04
open PySem PySem.Spec PyProof.Rows L2
def top (i : Nat) : Stmt := PySem.Challenge.pw_lorestead_k04_fields_known.main.body.getD i (.Pass ⟨0, 0, 0, 0⟩)
def k_DEEPEST : PyData := .int 3
def k_MADE_OF : List (PyData × PyData) := [((.str "not"), (.int 1)), ((.str "both"), (.int 2)), ((.str "either"), (.int 2)), ((.str "turned"), (.int 1)), ((.str "chain"), (.int 2)), ((.str "some"), (.int 1))]
def k_MOST_ATOMS : PyData := .int 40
def k_MOST_LETTERS : PyData := .int 8
def k_MOST_NOTIONS : PyData := .int 3
def k_MOST_PLACES : PyData := .int 2
def k_MOST_SHOWN : PyData := .int 10
def k_MOST_TERMS : PyData := .int 4
def k_MOST_UNKNOWNS : PyData := .int 3
def k_OF_TWO : PyData := .tuple [(.str "turned"), (.str "chain"), (.str "some")]
def k_SMALL_LETTERS : PyData := .str "abcdefghijklmnopqrstuvwxyz"
abbrev i_is_within : Nat := 0
abbrev i_is_notion_name : Nat := 1
abbrev i_is_notion : Nat := 2
abbrev i_is_notions : Nat := 3
abbrev i_made_places : Nat := 4
abbrev i_places_below : Nat := 5
abbrev i_places_in : Nat := 6
abbrev i_text_of : Nat := 7
abbrev i_own_terms : Nat := 8
abbrev i_all_parts : Nat := 9
abbrev i_by_texts : Nat := 10
abbrev i_terms_by : Nat := 11
abbrev i_unknown_rows : Nat := 12
abbrev i_many_atoms : Nat := 13
abbrev i_are_shown : Nat := 14
abbrev i_is_field : Nat := 15
abbrev i_need_field : Nat := 16
abbrev i_terms_in : Nat := 17
abbrev i_terms_of : Nat := 18
abbrev i_atoms_in : Nat := 19
abbrev i_atoms_of : Nat := 20
abbrev i_numbers_in : Nat := 21
abbrev i_is_atom_by : Nat := 22
abbrev i_is_atom_in : Nat := 23
abbrev i_is_atom : Nat := 24
abbrev i_need_atom : Nat := 25
abbrev i_place_of : Nat := 26
abbrev i__law_pool : Nat := 27
abbrev i__law_take : Nat := 28
abbrev i__law_names : Nat := 29
abbrev i__law_notions : Nat := 30
abbrev i__law_term : Nat := 31
abbrev i__law_parts : Nat := 32
abbrev i__law_text : Nat := 33
abbrev i__law_width : Nat := 34
abbrev i__law_terms : Nat := 35
abbrev i__law_rows : Nat := 36
abbrev i__law_atoms : Nat := 37
abbrev i__law_field : Nat := 38
abbrev i__law_folded : Nat := 39
abbrev i__law_is_name : Nat := 40
abbrev i__law_is_from : Nat := 41
abbrev i__law_are_notions : Nat := 42
abbrev i__law_places : Nat := 43
abbrev i__law_odd : Nat := 44
abbrev i__law_spoilt : Nat := 45
abbrev i__law_rough : Nat := 46
abbrev i__law_is_field : Nat := 47
abbrev i__law_told : Nat := 48
abbrev i__law_refused : Nat := 49
abbrev i__law_edges : Nat := 50
abbrev i__law_right : Nat := 51
abbrev i_law : Nat := 52
def b_is_within : List Sm := [.ret (.and [.isi (.v 0) [.int], .not (.isi (.v 0) [.bool]), .chn .LtE .LtE (.v 1) (.v 0) (.v 2)])]
def f_is_within : Fn := ⟨3, 3, b_is_within⟩
def b_is_notion_name : List Sm := [.ite (.or [.not (.isi (.v 0) [.str]), .not (.chn .LtE .LtE (.c (.int 1)) (.bi .len [.v 0]) (.g "MOST_LETTERS" k_MOST_LETTERS)), .cmp .In (.v 0) (.gd "MADE_OF" k_MADE_OF)]) [.ret (.c (.bool false))] [],
  .ret (.bi .all [.lc (.cmp .In (.v 1) (.g "SMALL_LETTERS" k_SMALL_LETTERS)) [1] (.v 1) (.v 0) []])]
def f_is_notion_name : Fn := ⟨1, 2, b_is_notion_name⟩
def b_is_notion : List Sm := [.ite (.or [.not (.isi (.v 0) [.tuple]), .cmp .NotEq (.bi .len [.v 0]) (.c (.int 2))]) [.ret (.c (.bool false))] [],
  .unp (.t2 (.v 1) (.v 2)) (.v 0),
  .ret (.and [.call i_is_notion_name [.v 1], .call i_is_within [.v 2, .c (.int 1), .g "MOST_PLACES" k_MOST_PLACES]])]
def f_is_notion : Fn := ⟨1, 3, b_is_notion⟩
def b_is_notions : List Sm := [.ite (.or [.not (.isi (.v 0) [.tuple]), .not (.chn .LtE .LtE (.c (.int 1)) (.bi .len [.v 0]) (.g "MOST_NOTIONS" k_MOST_NOTIONS))]) [.ret (.c (.bool false))] [],
  .ite (.not (.bi .all [.lc (.call i_is_notion [.v 1]) [1] (.v 1) (.v 0) []])) [.ret (.c (.bool false))] [],
  .ret (.cmp .Eq (.sclen (.v 2) [2, 3] (.t2 (.v 2) (.v 3)) (.v 0) []) (.bi .len [.v 0]))]
def f_is_notions : Fn := ⟨1, 4, b_is_notions⟩
def b_made_places : List Sm := [.ite (.cmp .In (.v 0) (.g "OF_TWO" k_OF_TWO)) [.ite (.cmp .Lt (.bi .minl [.v 1]) (.c (.int 2))) [.ret (.c .none)] [], .ret (.ite (.cmp .Eq (.v 0) (.c (.str "some"))) (.c (.int 1)) (.c (.int 2)))] [],
  .ret (.ite (.cmp .Eq (.ix (.v 1) (.c (.int 0))) (.ix (.v 1) (.neg (.c (.int 1))))) (.ix (.v 1) (.c (.int 0))) (.c .none))]
def f_made_places : Fn := ⟨2, 2, b_made_places⟩
def b_places_below : List Sm := [.ite (.isi (.v 1) [.str]) [.ret (.mt .get (.v 0) [.v 1])] [],
  .ite (.or [.cmp .Eq (.v 2) (.c (.int 0)), .not (.isi (.v 1) [.tuple]), .cmp .Eq (.v 1) (.tup [])]) [.ret (.c .none)] [],
  .star1 3 4 (.v 1),
  .ite (.or [.not (.isi (.v 3) [.str]), .cmp .NotEq (.mt .get (.gd "MADE_OF" k_MADE_OF) [.v 3]) (.bi .len [.v 4])]) [.ret (.c .none)] [],
  .set 5 (.lc (.call i_places_below [.v 0, .v 6, .bin .Sub (.v 2) (.c (.int 1))]) [6] (.v 6) (.v 4) []) false,
  .ret (.ite (.cmp .In (.c .none) (.v 5)) (.c .none) (.call i_made_places [.v 3, .v 5]))]
def f_places_below : Fn := ⟨3, 7, b_places_below⟩
def b_places_in : List Sm := [.ret (.call i_places_below [.bi .dct [.v 0], .v 1, .g "DEEPEST" k_DEEPEST])]
def f_places_in : Fn := ⟨2, 2, b_places_in⟩
def b_text_of : List Sm := [.ite (.isi (.v 0) [.str]) [.ret (.v 0)] [],
  .star1 1 2 (.v 0),
  .ret (.mt .join (.c (.str " ")) [.bin .Add (.lst [.v 1]) (.lc (.call i_text_of [.v 3]) [3] (.v 3) (.v 2) [])])]
def f_text_of : Fn := ⟨1, 4, b_text_of⟩
def b_own_terms : List Sm := [.ret (.ite (.isi (.v 0) [.str]) (.tup []) (.sl (.v 0) [.c (.int 1)] []))]
def f_own_terms : Fn := ⟨1, 1, b_own_terms⟩
def b_all_parts : List Sm := [.set 1 (.lst [.v 0]) true,
  .for (.v 2) (.call i_own_terms [.v 0]) [.ex (.mt .extend (.v 1) [.call i_all_parts [.v 2]])],
  .ret (.v 1)]
def f_all_parts : Fn := ⟨1, 3, b_all_parts⟩
def b_by_texts : List Sm := [.set 1 (.dc (.call i_text_of [.v 2]) (.v 2) [2] (.v 2) (.v 0) []) false,
  .ret (.bi .tup [.lc (.ix (.v 1) (.v 3)) [3] (.v 3) (.bi .sorted [.v 1]) []])]
def f_by_texts : Fn := ⟨1, 4, b_by_texts⟩
def b_terms_by : List Sm := [.ret (.call i_by_texts [.bin .Add (.lc (.v 2) [2, 3] (.t2 (.v 2) (.v 3)) (.v 0) []) (.lc2 (.v 5) [4, 5] (.v 4) (.v 1) [] [5] (.v 5) (.call i_all_parts [.v 4]) [])])]
def f_terms_by : Fn := ⟨2, 6, b_terms_by⟩
def b_unknown_rows : List Sm := [.set 2 (.lst [.tup []]) false,
  .for (.v 3) (.rng [.v 1]) [.set 2 (.lc2 (.bin .Add (.v 4) (.tup [.v 5])) [4, 5] (.v 4) (.v 2) [] [5] (.v 5) (.rng [.v 0]) []) false],
  .ret (.v 2)]
def f_unknown_rows : Fn := ⟨2, 6, b_unknown_rows⟩
def b_many_atoms : List Sm := [.ret (.bi .sum [.lc (.bi .len [.call i_unknown_rows [.v 2, .call i_places_in [.v 0, .v 3]]]) [3] (.v 3) (.v 1) []])]
def f_many_atoms : Fn := ⟨3, 4, b_many_atoms⟩
def b_are_shown : List Sm := [.ite (.or [.not (.isi (.v 1) [.tuple]), .not (.chn .LtE .LtE (.c (.int 1)) (.bi .len [.v 1]) (.g "MOST_TERMS" k_MOST_TERMS))]) [.ret (.c (.bool false))] [],
  .ite (.not (.bi .all [.lc (.notN (.call i_places_in [.v 0, .v 2])) [2] (.v 2) (.v 1) []])) [.ret (.c (.bool false))] [],
  .ret (.cmp .Eq (.bi .len [.call i_by_texts [.v 1]]) (.bi .len [.v 1]))]
def f_are_shown : Fn := ⟨2, 3, b_are_shown⟩
def b_is_field : List Sm := [.ite (.or [.not (.isi (.v 0) [.tuple]), .cmp .NotEq (.bi .len [.v 0]) (.c (.int 3))]) [.ret (.c (.bool false))] [],
  .unp (.t3 (.v 1) (.v 2) (.v 3)) (.v 0),
  .ite (.or [.not (.call i_is_notions [.v 1]), .not (.call i_are_shown [.v 1, .v 2]), .not (.call i_is_within [.v 3, .c (.int 1), .g "MOST_UNKNOWNS" k_MOST_UNKNOWNS])]) [.ret (.c (.bool false))] [],
  .ite (.cmp .Gt (.call i_many_atoms [.v 1, .v 2, .v 3]) (.g "MOST_SHOWN" k_MOST_SHOWN)) [.ret (.c (.bool false))] [],
  .ret (.cmp .LtE (.call i_many_atoms [.v 1, .call i_terms_by [.v 1, .v 2], .v 3]) (.g "MOST_ATOMS" k_MOST_ATOMS))]
def f_is_field : Fn := ⟨1, 4, b_is_field⟩
def b_need_field : List Sm := [.ite (.not (.call i_is_field [.v 0])) [.raise 3] []]
def f_need_field : Fn := ⟨1, 1, b_need_field⟩
def b_terms_in : List Sm := [.unp (.t3 (.v 1) (.v 2) (.v 3)) (.v 0),
  .ret (.call i_terms_by [.v 1, .v 2])]
def f_terms_in : Fn := ⟨1, 4, b_terms_in⟩
def b_terms_of : List Sm := [.ex (.call i_need_field [.v 0]),
  .ret (.call i_terms_in [.v 0])]
def f_terms_of : Fn := ⟨1, 1, b_terms_of⟩
def b_atoms_in : List Sm := [.unp (.t3 (.v 2) (.v 3) (.v 4)) (.v 0),
  .set 5 (.lc (.v 6) [6] (.v 6) (.call i_terms_in [.v 0]) [.or [.not (.v 1), .cmp .In (.v 6) (.v 3)]]) false,
  .ret (.bi .tup [.lc2 (.tup [.v 6, .v 7]) [6, 7] (.v 6) (.v 5) [] [7] (.v 7) (.call i_unknown_rows [.v 4, .call i_places_in [.v 2, .v 6]]) []])]
def f_atoms_in : Fn := ⟨2, 8, b_atoms_in⟩
def b_atoms_of : List Sm := [.ex (.call i_need_field [.v 0]),
  .ret (.call i_atoms_in [.v 0, .v 1])]
def f_atoms_of : Fn := ⟨2, 2, b_atoms_of⟩
def b_numbers_in : List Sm := [.ret (.dc (.v 2) (.v 1) [1, 2] (.t2 (.v 1) (.v 2)) (.enm [.call i_atoms_in [.v 0, .c (.bool false)]]) [])]
def f_numbers_in : Fn := ⟨1, 3, b_numbers_in⟩
def b_is_atom_by : List Sm := [.ite (.or [.not (.isi (.v 2) [.tuple]), .cmp .NotEq (.bi .len [.v 2]) (.c (.int 2))]) [.ret (.c (.bool false))] [],
  .unp (.t2 (.v 3) (.v 4)) (.v 2),
  .unp (.t3 (.v 5) (.v 6) (.v 7)) (.v 0),
  .ite (.or [.not (.isi (.v 3) [.str, .tuple]), .cmp .NotIn (.v 3) (.v 1), .not (.isi (.v 4) [.tuple])]) [.ret (.c (.bool false))] [],
  .ret (.and [.cmp .Eq (.bi .len [.v 4]) (.call i_places_in [.v 5, .v 3]), .bi .all [.lc (.call i_is_within [.v 8, .c (.int 0), .bin .Sub (.v 7) (.c (.int 1))]) [8] (.v 8) (.v 4) []]])]
def f_is_atom_by : Fn := ⟨3, 9, b_is_atom_by⟩
def b_is_atom_in : List Sm := [.ret (.call i_is_atom_by [.v 0, .ite (.v 2) (.ix (.v 0) (.c (.int 1))) (.call i_terms_in [.v 0]), .v 1])]
def f_is_atom_in : Fn := ⟨3, 3, b_is_atom_in⟩
def b_is_atom : List Sm := [.ex (.call i_need_field [.v 0]),
  .ret (.call i_is_atom_in [.v 0, .v 1, .v 2])]
def f_is_atom : Fn := ⟨3, 3, b_is_atom⟩
def b_need_atom : List Sm := [.ite (.not (.call i_is_atom_in [.v 0, .v 1, .c (.bool false)])) [.raise 4] []]
def f_need_atom : Fn := ⟨2, 2, b_need_atom⟩
def b_place_of : List Sm := [.ex (.call i_need_field [.v 0]),
  .ex (.call i_need_atom [.v 0, .v 1]),
  .ret (.ix (.call i_numbers_in [.v 0]) (.v 1))]
def f_place_of : Fn := ⟨2, 2, b_place_of⟩
def b__law_pool : List Sm := [.set 2 (.c (.int 0)) false,
  .ite (.cmp .Lt (.v 1) (.bi .len [.v 0])) [.set 2 (.ix (.v 0) (.v 1)) false] [],
  .ret (.lst [.bi .max2 [.c (.int 0), .bin .Sub (.v 2) (.bin .Pow (.c (.int 10)) (.c (.int 18)))], .bin .Mod (.v 2) (.c (.int 1000000007)), .bin .Add (.bin .Mult (.c (.int 7919)) (.v 1)) (.c (.int 1))])]
def f__law_pool : Fn := ⟨2, 3, b__law_pool⟩
def b__law_take : List Sm := [.ite (.cmp .Gt (.ix (.v 0) (.c (.int 0))) (.c (.int 0))) [.set 2 (.bin .Mod (.ix (.v 0) (.c (.int 0))) (.v 1)) false, .put (.v 0) (.c (.int 0)) (.bin .FloorDiv (.ix (.v 0) (.c (.int 0))) (.v 1)), .ret (.v 2)] [],
  .put (.v 0) (.c (.int 2)) (.bin .Add (.ix (.v 0) (.c (.int 2))) (.c (.int 1))),
  .set 3 (.bin .Mod (.bin .Add (.bin .Add (.bin .Mult (.ix (.v 0) (.c (.int 1))) (.c (.int 48271))) (.bin .Mult (.c (.int 104729)) (.ix (.v 0) (.c (.int 2))))) (.c (.int 101))) (.c (.int 2147483629))) false,
  .set 3 (.bin .Mod (.bin .Pow (.v 3) (.c (.int 5))) (.c (.int 2147483587))) false,
  .set 4 (.bin .Mod (.bin .Pow (.bin .Add (.bin .Add (.v 3) (.bin .Mult (.bin .Mult (.c (.int 69621)) (.ix (.v 0) (.c (.int 2)))) (.ix (.v 0) (.c (.int 2))))) (.bin .Mod (.ix (.v 0) (.c (.int 1))) (.c (.int 65537)))) (.c (.int 3))) (.c (.int 2147483563))) false,
  .ret (.bin .Mod (.bin .FloorDiv (.bin .Mod (.bin .Mult (.v 4) (.c (.int 40692))) (.c (.int 2147483549))) (.c (.int 64))) (.v 1))]
def f__law_take : Fn := ⟨2, 5, b__law_take⟩
def b__law_names : List Sm := [.set 2 (.ix (.lst [.c (.str "abcdefghijklmnopqrstuvwxyz"), .c (.str "ab")]) (.call i__law_take [.v 0, .c (.int 2)])) false,
  .set 3 (.lst [.c (.str "not"), .c (.str "both"), .c (.str "either"), .c (.str "turned"), .c (.str "chain"), .c (.str "some")]) true,
  .for (.v 4) (.rng [.v 1]) [.set 5 (.mt .join (.c (.str "")) [.lc (.ix (.v 2) (.call i__law_take [.v 0, .bi .len [.v 2]])) [6] (.v 6) (.rng [.bin .Add (.c (.int 1)) (.call i__law_take [.v 0, .c (.int 8)])]) []]) false, .ite (.and [.cmp .Gt (.v 4) (.c (.int 0)), .cmp .Eq (.call i__law_take [.v 0, .c (.int 3)]) (.c (.int 0))]) [.set 5 (.ix (.v 3) (.neg (.c (.int 1)))) false] [], .set 7 (.call i__law_take [.v 0, .bi .len [.v 5]]) false, .set 8 (.bin .Add (.lst [.v 5]) (.lc (.bin .Add (.bin .Add (.sl (.v 5) [] [.v 7]) (.v 9)) (.sl (.v 5) [.bin .Add (.v 7) (.c (.int 1))] [])) [9] (.v 9) (.c (.str "abcdefghijklmnopqrstuvwxyz")) [])) false, .ex (.mt .append (.v 3) [.ix (.lc (.v 10) [10] (.v 10) (.v 8) [.cmp .NotIn (.v 10) (.v 3)]) (.c (.int 0))])],
  .ret (.sl (.v 3) [.c (.int 6)] [])]
def f__law_names : Fn := ⟨2, 11, b__law_names⟩
def b__law_notions : List Sm := [.set 1 (.call i__law_names [.v 0, .bin .Add (.c (.int 1)) (.call i__law_take [.v 0, .c (.int 3)])]) false,
  .ret (.bi .tup [.lc (.tup [.v 2, .bin .Add (.c (.int 1)) (.bi .int [.cmp .Gt (.call i__law_take [.v 0, .c (.int 3)]) (.c (.int 0))])]) [2] (.v 2) (.v 1) []])]
def f__law_notions : Fn := ⟨1, 3, b__law_notions⟩
def b__law_term : List Sm := [.unp (.t2 (.v 3) (.v 4)) (.ix (.v 1) (.call i__law_take [.v 0, .bi .len [.v 1]])),
  .for (.v 5) (.rng [.call i__law_take [.v 0, .bin .Add (.v 2) (.c (.int 1))]]) [.set 6 (.bin .Add (.lc (.v 7) [7, 8] (.t2 (.v 7) (.v 8)) (.v 1) [.cmp .Eq (.v 8) (.v 4)]) (.lst [.v 3])) false, .ite (.not (.isi (.v 3) [.str])) [.set 6 (.bin .Add (.v 6) (.lc (.tup [.c (.str "not"), .v 9]) [9] (.v 9) (.sl (.v 6) [] [.neg (.c (.int 1))]) [])) false] [], .set 9 (.ix (.v 6) (.call i__law_take [.v 0, .bi .len [.v 6]])) false, .set 10 (.call i__law_take [.v 0, .ix (.lst [.c (.int 3), .c (.int 6)]) (.bin .Sub (.v 4) (.c (.int 1)))]) false, .set 11 (.ix (.lst [.tup [.v 3, .v 9], .tup [.v 9, .v 3]]) (.call i__law_take [.v 0, .c (.int 2)])) false, .set 12 (.lst [.tup [.c (.str "not"), .v 3], .bin .Add (.tup [.c (.str "both")]) (.v 11), .bin .Add (.tup [.c (.str "either")]) (.v 11), .bin .Add (.tup [.c (.str "chain")]) (.v 11)]) false, .set 3 (.ix (.bin .Add (.v 12) (.lst [.tup [.c (.str "turned"), .v 3], .tup [.c (.str "some"), .v 3]])) (.v 10)) false, .set 4 (.bin .Sub (.v 4) (.bi .int [.cmp .Eq (.v 10) (.c (.int 5))])) false],
  .ret (.tup [.v 3, .v 4])]
def f__law_term : Fn := ⟨3, 13, b__law_term⟩
def b__law_parts : List Sm := [.ite (.isi (.v 0) [.str]) [.ret (.lst [.v 0])] [],
  .set 1 (.lst [.v 0]) true,
  .for (.v 2) (.sl (.v 0) [.c (.int 1)] []) [.ex (.mt .extend (.v 1) [.call i__law_parts [.v 2]])],
  .ret (.v 1)]
def f__law_parts : Fn := ⟨1, 3, b__law_parts⟩
def b__law_text : List Sm := [.ite (.isi (.v 0) [.str]) [.ret (.v 0)] [],
  .ret (.mt .join (.c (.str " ")) [.bin .Add (.lst [.ix (.v 0) (.c (.int 0))]) (.lc (.call i__law_text [.v 1]) [1] (.v 1) (.sl (.v 0) [.c (.int 1)] []) [])])]
def f__law_text : Fn := ⟨1, 2, b__law_text⟩
def b__law_width : List Sm := [.ite (.isi (.v 1) [.str]) [.ret (.ix (.bi .dct [.v 0]) (.v 1))] [],
  .ite (.cmp .In (.ix (.v 1) (.c (.int 0))) (.tup [.c (.str "turned"), .c (.str "chain")])) [.ret (.c (.int 2))] [],
  .ret (.ite (.cmp .Eq (.ix (.v 1) (.c (.int 0))) (.c (.str "some"))) (.c (.int 1)) (.call i__law_width [.v 0, .ix (.v 1) (.c (.int 1))]))]
def f__law_width : Fn := ⟨2, 2, b__law_width⟩
def b__law_terms : List Sm := [.set 2 (.dnew) true,
  .for (.v 3) (.bin .Add (.lc (.v 4) [4, 5] (.t2 (.v 4) (.v 5)) (.v 0) []) (.bi .lst [.v 1])) [.for (.v 6) (.call i__law_parts [.v 3]) [.put (.v 2) (.call i__law_text [.v 6]) (.v 6)]],
  .ret (.lc (.ix (.v 2) (.v 7)) [7] (.v 7) (.bi .sorted [.v 2]) [])]
def f__law_terms : Fn := ⟨2, 8, b__law_terms⟩
def b__law_rows : List Sm := [.ite (.cmp .Eq (.v 1) (.c (.int 1))) [.ret (.lc (.tup [.v 2]) [2] (.v 2) (.rng [.v 0]) [])] [],
  .set 3 (.lst []) true,
  .for (.v 2) (.rng [.v 0]) [.ex (.mt .extend (.v 3) [.lc (.tup [.v 2, .v 4]) [4] (.v 4) (.rng [.v 0]) []])],
  .ret (.v 3)]
def f__law_rows : Fn := ⟨2, 5, b__law_rows⟩
def b__law_atoms : List Sm := [.set 2 (.lst []) true,
  .for (.v 3) (.call i__law_terms [.ix (.v 0) (.c (.int 0)), .ix (.v 0) (.c (.int 1))]) [.ite (.or [.cmp .Eq (.v 1) (.c (.int 0)), .cmp .In (.v 3) (.ix (.v 0) (.c (.int 1)))]) [.ex (.mt .extend (.v 2) [.lc (.tup [.v 3, .v 4]) [4] (.v 4) (.call i__law_rows [.ix (.v 0) (.c (.int 2)), .call i__law_width [.ix (.v 0) (.c (.int 0)), .v 3]]) []])] []],
  .ret (.v 2)]
def f__law_atoms : Fn := ⟨2, 5, b__law_atoms⟩
def b__law_field : List Sm := [.set 2 (.call i__law_notions [.v 0]) false,
  .unp (.t2 (.v 3) (.v 4)) (.call i__law_term [.v 0, .v 2, .c (.int 3)]),
  .set 5 (.bin .Add (.c (.int 1)) (.call i__law_take [.v 0, .c (.int 3)])) false,
  .while (.or [.cmp .Gt (.bi .len [.call i__law_rows [.v 5, .v 4]]) (.v 1), .cmp .Gt (.bi .len [.call i__law_atoms [.tup [.v 2, .tup [.v 3], .v 5], .c (.int 0)]]) (.c (.int 40))]) [.set 5 (.bin .Sub (.v 5) (.c (.int 1))) false],
  .set 6 (.lst [.v 3]) true,
  .for (.v 7) (.rng [.call i__law_take [.v 0, .c (.int 4)]]) [.unp (.t2 (.v 8) (.v 4)) (.call i__law_term [.v 0, .v 2, .bin .Add (.c (.int 1)) (.call i__law_take [.v 0, .c (.int 3)])]), .set 9 (.tup [.v 2, .bi .tup [.bin .Add (.v 6) (.lst [.v 8])], .v 5]) false, .ite (.and [.cmp .NotIn (.v 8) (.v 6), .cmp .LtE (.bi .len [.call i__law_atoms [.v 9, .c (.int 1)]]) (.v 1), .cmp .LtE (.bi .len [.call i__law_atoms [.v 9, .c (.int 0)]]) (.c (.int 40))]) [.ex (.mt .append (.v 6) [.v 8])] []],
  .ret (.tup [.v 2, .bi .tup [.v 6], .v 5])]
def f__law_field : Fn := ⟨2, 10, b__law_field⟩
def b__law_folded : List Sm := [.ret (.lc (.bi .sum [.step (.v 0) [.v 2] [.c (.int 63)] [.v 1]]) [2] (.v 2) (.rng [.bi .max2 [.c (.int 1), .bi .min2 [.v 1, .bi .len [.v 0]]]]) [])]
def f__law_folded : Fn := ⟨2, 3, b__law_folded⟩
def b__law_is_name : List Sm := [.ite (.or [.not (.isi (.v 0) [.str]), .not (.chn .LtE .LtE (.c (.int 1)) (.bi .len [.v 0]) (.c (.int 8)))]) [.ret (.c (.bool false))] [],
  .ite (.cmp .In (.v 0) (.lst [.c (.str "not"), .c (.str "both"), .c (.str "either"), .c (.str "turned"), .c (.str "chain"), .c (.str "some")])) [.ret (.c (.bool false))] [],
  .ret (.cmp .Eq (.lc (.c (.int 1)) [1] (.v 1) (.v 0) [.cmp .NotIn (.v 1) (.c (.str "abcdefghijklmnopqrstuvwxyz"))]) (.lst []))]
def f__law_is_name : Fn := ⟨1, 2, b__law_is_name⟩
def b__law_is_from : List Sm := [.ret (.and [.isi (.v 0) [.int], .not (.isi (.v 0) [.bool]), .chn .LtE .LtE (.v 1) (.v 0) (.v 2)])]
def f__law_is_from : Fn := ⟨3, 3, b__law_is_from⟩
def b__law_are_notions : List Sm := [.ite (.or [.not (.isi (.v 0) [.tuple]), .not (.chn .LtE .LtE (.c (.int 1)) (.bi .len [.v 0]) (.c (.int 3)))]) [.ret (.c (.bool false))] [],
  .set 1 (.lst []) true,
  .for (.v 2) (.v 0) [.ite (.or [.not (.isi (.v 2) [.tuple]), .cmp .NotEq (.bi .len [.v 2]) (.c (.int 2)), .not (.call i__law_is_name [.ix (.v 2) (.c (.int 0))]), .not (.call i__law_is_from [.ix (.v 2) (.c (.int 1)), .c (.int 1), .c (.int 2)])]) [.ret (.c (.bool false))] [], .ite (.cmp .In (.ix (.v 2) (.c (.int 0))) (.v 1)) [.ret (.c (.bool false))] [], .ex (.mt .append (.v 1) [.ix (.v 2) (.c (.int 0))])],
  .ret (.c (.bool true))]
def f__law_are_notions : Fn := ⟨1, 3, b__law_are_notions⟩
def b__law_places : List Sm := [.ite (.isi (.v 1) [.str]) [.ret (.mt .get (.bi .dct [.v 0]) [.v 1, .c (.int 0)])] [],
  .ite (.or [.cmp .Eq (.v 2) (.c (.int 0)), .not (.isi (.v 1) [.tuple]), .cmp .Eq (.v 1) (.tup []), .not (.isi (.ix (.v 1) (.c (.int 0))) [.str])]) [.ret (.c (.int 0))] [],
  .par [3, 4] [.ix (.v 1) (.c (.int 0)), .lc (.call i__law_places [.v 0, .v 5, .bin .Sub (.v 2) (.c (.int 1))]) [5] (.v 5) (.sl (.v 1) [.c (.int 1)] []) []],
  .ite (.cmp .In (.c (.int 0)) (.v 4)) [.ret (.c (.int 0))] [],
  .ite (.cmp .In (.v 3) (.tup [.c (.str "turned"), .c (.str "some")])) [.ret (.ite (.cmp .Eq (.v 4) (.lst [.c (.int 2)])) (.ix (.lst [.c (.int 2), .c (.int 1)]) (.bi .int [.cmp .Eq (.v 3) (.c (.str "some"))])) (.c (.int 0)))] [],
  .ite (.cmp .Eq (.v 3) (.c (.str "chain"))) [.ret (.ite (.cmp .Eq (.v 4) (.lst [.c (.int 2), .c (.int 2)])) (.c (.int 2)) (.c (.int 0)))] [],
  .ite (.cmp .Eq (.v 3) (.c (.str "not"))) [.ret (.ite (.cmp .Eq (.bi .len [.v 4]) (.c (.int 1))) (.ix (.v 4) (.c (.int 0))) (.c (.int 0)))] [],
  .ret (.ite (.and [.cmp .In (.v 3) (.tup [.c (.str "both"), .c (.str "either")]), .cmp .In (.v 4) (.tup [.lst [.c (.int 1), .c (.int 1)], .lst [.c (.int 2), .c (.int 2)]])]) (.ix (.v 4) (.c (.int 0))) (.c (.int 0)))]
def f__law_places : Fn := ⟨3, 6, b__law_places⟩
def b__law_odd : List Sm := [.set 1 (.lst [.c .none, .c (.bool true), .c (.bool false), .c (.int 0), .c (.int 1), .c (.int 2), .c (.int 3), .neg (.c (.int 1)), .bin .Pow (.c (.int 10)) (.c (.int 39)), .c (.str ""), .c (.str "a"), .c (.str "not"), .c (.str "some"), .c (.str "abcdefghi"), .c (.str "Ab"), .c (.str "a b"), .tup [], .tup [.c (.str "a")]]) false,
  .set 1 (.bin .Add (.v 1) (.lst [.lst [.c (.str "a"), .c (.int 1)], .dnew, .tup [.c (.str "a"), .c (.int 1)], .tup [.tup [.c (.str "a"), .c (.int 1)]], .lst [.tup [.c (.str "a"), .c (.int 1)]], .tup [.c (.str "a"), .c (.bool true)], .tup [.c (.str "not")], .tup [.c (.int 1), .c (.int 2)], .tup [.tup []], .c (.str "a1")])) false,
  .ret (.ix (.v 1) (.call i__law_take [.v 0, .bi .len [.v 1]]))]
def f__law_odd : Fn := ⟨1, 2, b__law_odd⟩
def b__law_spoilt : List Sm := [.set 3 (.call i__law_take [.v 0, .c (.int 10)]) false,
  .set 4 (.c (.int 0)) false,
  .ite (.and [.isi (.v 1) [.tuple], .cmp .NotEq (.v 1) (.tup [])]) [.set 4 (.call i__law_take [.v 0, .bi .len [.v 1]]) false] [],
  .set 5 (.call i__law_odd [.v 0]) false,
  .ite (.or [.cmp .Eq (.v 2) (.c (.int 0)), .not (.isi (.v 1) [.tuple]), .cmp .Eq (.v 1) (.tup [])]) [.ite (.and [.isi (.v 1) [.str], .cmp .Lt (.v 3) (.c (.int 6))]) [.ret (.ix (.lst [.bin .Add (.v 1) (.c (.str "a")), .sl (.v 1) [.c (.int 1)] [], .step (.v 1) [] [] [.neg (.c (.int 1))], .bin .Add (.v 1) (.c (.str "Z")), .bin .Add (.v 1) (.c (.str " ")), .bin .Add (.c (.str "z")) (.sl (.v 1) [] [.c (.int 7)])]) (.v 3))] [], .ite (.and [.isi (.v 1) [.int], .not (.isi (.v 1) [.bool]), .cmp .Lt (.v 3) (.c (.int 6))]) [.ret (.ix (.lst [.bin .Add (.v 1) (.c (.int 1)), .bin .Sub (.v 1) (.c (.int 1)), .cmp .Eq (.v 1) (.c (.int 1)), .bi .str [.v 1], .bin .Sub (.c (.int 3)) (.v 1), .c (.int 2)]) (.v 3))] [], .ret (.v 5)] [],
  .ite (.cmp .Lt (.v 3) (.c (.int 6))) [.set 6 (.call i__law_spoilt [.v 0, .ix (.v 1) (.v 4), .bin .Sub (.v 2) (.c (.int 1))]) false, .ret (.bin .Add (.bin .Add (.sl (.v 1) [] [.v 4]) (.tup [.v 6])) (.sl (.v 1) [.bin .Add (.v 4) (.c (.int 1))] []))] [],
  .set 7 (.lst [.bin .Add (.sl (.v 1) [] [.v 4]) (.sl (.v 1) [.bin .Add (.v 4) (.c (.int 1))] []), .bin .Add (.sl (.v 1) [] [.bin .Add (.v 4) (.c (.int 1))]) (.sl (.v 1) [.v 4] []), .bi .lst [.v 1], .step (.v 1) [] [] [.neg (.c (.int 1))]]) false,
  .ret (.ix (.v 7) (.bin .Sub (.v 3) (.c (.int 6))))]
def f__law_spoilt : Fn := ⟨3, 8, b__law_spoilt⟩
def b__law_rough : List Sm := [.set 1 (.call i__law_notions [.v 0]) false,
  .set 2 (.lc (.ix (.call i__law_term [.v 0, .v 1, .c (.int 3)]) (.c (.int 0))) [3] (.v 3) (.rng [.bin .Add (.c (.int 1)) (.call i__law_take [.v 0, .c (.int 5)])]) []) false,
  .ret (.tup [.v 1, .bi .tup [.v 2], .ix (.lst [.c (.int 1), .c (.int 2), .c (.int 3), .c (.int 3), .c (.int 4)]) (.call i__law_take [.v 0, .c (.int 5)])])]
def f__law_rough : Fn := ⟨1, 4, b__law_rough⟩
def b__law_is_field : List Sm := [.ite (.or [.not (.isi (.v 0) [.tuple]), .cmp .NotEq (.bi .len [.v 0]) (.c (.int 3)), .not (.call i__law_are_notions [.ix (.v 0) (.c (.int 0))])]) [.ret (.c (.bool false))] [],
  .ite (.or [.not (.isi (.ix (.v 0) (.c (.int 1))) [.tuple]), .not (.chn .LtE .LtE (.c (.int 1)) (.bi .len [.ix (.v 0) (.c (.int 1))]) (.c (.int 4))), .not (.call i__law_is_from [.ix (.v 0) (.c (.int 2)), .c (.int 1), .c (.int 3)])]) [.ret (.c (.bool false))] [],
  .ite (.cmp .NotEq (.lc (.c (.int 1)) [1] (.v 1) (.ix (.v 0) (.c (.int 1))) [.cmp .Eq (.call i__law_places [.ix (.v 0) (.c (.int 0)), .v 1, .c (.int 3)]) (.c (.int 0))]) (.lst [])) [.ret (.c (.bool false))] [],
  .ite (.cmp .NotEq (.lc (.c (.int 1)) [2] (.v 2) (.rng [.bi .len [.ix (.v 0) (.c (.int 1))]]) [.cmp .In (.ix (.ix (.v 0) (.c (.int 1))) (.v 2)) (.sl (.ix (.v 0) (.c (.int 1))) [] [.v 2])]) (.lst [])) [.ret (.c (.bool false))] [],
  .ret (.and [.cmp .LtE (.bi .len [.call i__law_atoms [.v 0, .c (.int 1)]]) (.c (.int 10)), .cmp .LtE (.bi .len [.call i__law_atoms [.v 0, .c (.int 0)]]) (.c (.int 40))])]
def f__law_is_field : Fn := ⟨1, 3, b__law_is_field⟩
def b__law_told : List Sm := [.ite (.cmp .Eq (.v 0) (.c (.int 0))) [.ret (.call i_terms_of [.v 1])] [],
  .ite (.cmp .Eq (.v 0) (.c (.int 1))) [.ret (.call i_atoms_of [.v 1, .c (.bool false)])] [],
  .ret (.ite (.cmp .Eq (.v 0) (.c (.int 2))) (.call i_is_atom [.v 1, .v 2, .c (.bool false)]) (.call i_place_of [.v 1, .v 2]))]
def f__law_told : Fn := ⟨3, 3, b__law_told⟩
def b__law_refused : List Sm := [.try [.ex (.call i__law_told [.v 0, .v 1, .v 2])] [0] 3 [.ret (.and [.isi (.v 3) [.cls 3], .not (.isi (.v 3) [.cls 4, .cls 1, .cls 2])])],
  .ret (.c (.bool false))]
def f__law_refused : Fn := ⟨3, 4, b__law_refused⟩
def b__law_edges : List Sm := [.unp (.t3 (.v 1) (.v 2) (.v 3)) (.v 0),
  .set 4 (.lst [.tup [.v 1, .bin .Add (.v 2) (.sl (.v 2) [] [.c (.int 1)]), .v 3], .tup [.v 1, .tup [], .v 3], .tup [.v 1, .sl (.v 2) [] [.c (.int 1)], .v 3]]) true,
  .set 5 (.tup [.tup [.c (.str "a"), .c (.int 2)], .tup [.c (.str "b"), .c (.int 2)], .tup [.c (.str "c"), .c (.int 1)]]) false,
  .set 4 (.bin .Add (.v 4) (.lst [.tup [.v 1, .v 2, .bin .Add (.v 3) (.c (.int 1))], .tup [.v 5, .tup [.c (.str "a"), .c (.str "b"), .c (.str "c")], .c (.int 2)], .tup [.v 5, .tup [.c (.str "a"), .c (.str "c")], .c (.int 3)]])) true,
  .ex (.mt .append (.v 4) [.tup [.v 5, .tup [.c (.str "a"), .c (.str "b"), .tup [.c (.str "both"), .c (.str "c"), .c (.str "c")], .c (.str "c")], .c (.int 2)]]),
  .unp (.t2 (.v 6) (.v 7)) (.tup [.tup [.c (.str "chain"), .tup [.c (.str "chain"), .c (.str "a"), .c (.str "b")], .tup [.c (.str "turned"), .c (.str "a")]], .tup [.c (.str "chain"), .tup [.c (.str "turned"), .c (.str "b")], .tup [.c (.str "chain"), .c (.str "b"), .c (.str "a")]]]),
  .set 8 (.tup [.c (.str "chain"), .c (.str "b"), .c (.str "b")]) false,
  .set 4 (.bin .Add (.v 4) (.lst [.tup [.v 5, .tup [.v 6, .v 7, .tup [.c (.str "some"), .v 8]], .c (.int 2)], .tup [.v 5, .tup [.v 6, .v 7, .tup [.c (.str "some"), .tup [.c (.str "not"), .v 8]]], .c (.int 2)]])) true,
  .ex (.mt .append (.v 4) [.tup [.v 5, .tup [.v 6, .v 7, .tup [.c (.str "not"), .tup [.c (.str "some"), .v 8]]], .c (.int 2)]]),
  .set 8 (.tup [.c (.str "some"), .tup [.c (.str "chain"), .c (.str "a"), .c (.str "b")]]) false,
  .set 4 (.bin .Add (.v 4) (.lst [.tup [.v 5, .tup [.v 8, .tup [.c (.str "not"), .v 8], .tup [.c (.str "not"), .c (.str "c")]], .c (.int 3)], .tup [.v 5, .tup [.v 8, .tup [.c (.str "not"), .v 8], .tup [.c (.str "some"), .c (.str "a")]], .c (.int 3)]])) true,
  .set 9 (.tup [.c (.str "c"), .tup [.c (.str "not"), .c (.str "c")], .tup [.c (.str "both"), .c (.str "c"), .c (.str "c")], .tup [.c (.str "not"), .tup [.c (.str "not"), .c (.str "c")]], .tup [.c (.str "either"), .c (.str "c"), .c (.str "c")]]) false,
  .ret (.bin .Add (.v 4) (.lst [.tup [.sl (.v 5) [.c (.int 2)] [], .v 9, .c (.int 1)], .tup [.sl (.v 5) [.c (.int 2)] [], .sl (.v 9) [.c (.int 1)] [], .c (.int 1)], .tup [.v 5, .tup [.v 8, .tup [.c (.str "some"), .tup [.c (.str "turned"), .c (.str "a")]]], .c (.int 3)]]))]
def f__law_edges : Fn := ⟨1, 10, b__law_edges⟩
def b__law_right : List Sm := [.set 2 (.bi .repr [.v 1]) false,
  .set 3 (.call i__law_is_field [.v 1]) false,
  .for (.v 4) (.rng [.c (.int 2)]) [.set 5 (.call i_is_field [.v 1]) false, .ite (.or [.not (.isi (.v 5) [.bool]), .cmp .NotEq (.v 5) (.v 3)]) [.ret (.c (.bool false))] []],
  .set 6 (.ix (.lst [.tup [.c (.str "a"), .tup [.c (.int 0)]], .c .none, .call i__law_odd [.v 0]]) (.call i__law_take [.v 0, .c (.int 3)])) false,
  .ite (.and [.not (.v 3), .not (.call i__law_refused [.call i__law_take [.v 0, .c (.int 4)], .v 1, .v 6])]) [.ret (.c (.bool false))] [],
  .ret (.cmp .Eq (.bi .repr [.v 1]) (.v 2))]
def f__law_right : Fn := ⟨2, 7, b__law_right⟩
def b_law : List Sm := [.set 1 (.call i__law_folded [.v 0, .c (.int 6)]) false,
  .for (.v 2) (.rng [.bi .len [.v 1]]) [.set 3 (.call i__law_pool [.v 1, .v 2]) true, .set 4 (.call i__law_field [.v 3, .c (.int 10)]) false, .set 5 (.bin .Add (.bin .Add (.lst [.v 4, .call i__law_odd [.v 3]]) (.call i__law_edges [.v 4])) (.lc (.call i__law_rough [.v 3]) [6] (.v 6) (.rng [.c (.int 6)]) [])) false, .for (.v 6) (.rng [.c (.int 6)]) [.set 7 (.call i__law_spoilt [.v 3, .v 4, .c (.int 5)]) false, .set 5 (.bin .Add (.v 5) (.lst [.v 7, .call i__law_spoilt [.v 3, .v 7, .c (.int 5)]])) false], .for (.v 8) (.v 5) [.ite (.not (.call i__law_right [.v 3, .v 8])) [.ret (.c (.bool false))] []], .ite (.not (.call i__law_is_field [.v 4])) [.ret (.c (.bool false))] []],
  .ret (.cmp .Eq (.bi .repr [.tup [.g "MOST_SHOWN" k_MOST_SHOWN, .g "MOST_ATOMS" k_MOST_ATOMS]]) (.c (.str "(10, 40)")))]
def f_law : Fn := ⟨1, 9, b_law⟩
def fns : List Fn := [f_is_within, f_is_notion_name, f_is_notion, f_is_notions, f_made_places, f_places_below, f_places_in, f_text_of, f_own_terms, f_all_parts, f_by_texts, f_terms_by, f_unknown_rows, f_many_atoms, f_are_shown, f_is_field, f_need_field, f_terms_in, f_terms_of, f_atoms_in, f_atoms_of, f_numbers_in, f_is_atom_by, f_is_atom_in, f_is_atom, f_need_atom, f_place_of, f__law_pool, f__law_take, f__law_names, f__law_notions, f__law_term, f__law_parts, f__law_text, f__law_width, f__law_terms, f__law_rows, f__law_atoms, f__law_field, f__law_folded, f__law_is_name, f__law_is_from, f__law_are_notions, f__law_places, f__law_odd, f__law_spoilt, f__law_rough, f__law_is_field, f__law_told, f__law_refused, f__law_edges, f__law_right, f_law]
def sb : Sb := [(0, [0], true), (0, [4, 1, 2], false), (0, [3], false), (1, [0], true), (1, [4, 1, 2], true), (1, [3], false), (2, [0], true), (2, [4, 1, 2], true), (2, [3], false), (3, [0], true), (3, [4, 1, 2], false), (3, [3], true), (4, [0], true), (4, [4, 1, 2], true), (4, [3], false)]
def turns : Nat := 5000
end K04
end Lo
namespace Lo
open PySem
theorem lookS_mem (s : Str) : ∀ ps : List (Str × PyData), (lookS s (ps.map fun p => (.str p.1, p.2))).isSome = (ps.map (·.1)).contains s
  | [] => rfl
  | (a, v) :: r => by
    simp only [List.map_cons, lookS, List.contains_cons]
    by_cases h : a = s
    · simp [h]
    · rw [if_neg h, lookS_mem s r, beq_eq_false_iff_ne.mpr (fun e => h e.symm)]; simp
theorem boolL_map {α : Type} (f : α → Bool) : ∀ xs : List α, boolL (xs.map fun x => .bool (f x)) = some (xs.map f)
  | [] => rfl
  | x :: xs => by simp only [List.map_cons, boolL, boolL_map f xs, Option.map_some]
theorem all_new (m : Mem) (xs : List PyData) : biW .all [.new xs] m = (boolL xs).bind fun bs => some (.d (.bool (bs.all id))) := by
  show (match (listOf m (.new xs)).bind boolL with | some bs => some (W.d (.bool (bs.all id))) | none => none) = _
  show (match boolL xs with | some bs => some (W.d (.bool (bs.all id))) | none => none) = _
  cases boolL xs <;> rfl
theorem eqv_refl_str (s : Str) : PyData.eqv (.str s) (.str s) = true := by simp [PyData.eqv]
theorem eqv_strs (a b : Str) : PyData.eqv (.str a) (.str b) = (a == b) := by simp [PyData.eqv]
/-- a text among texts -/
theorem inO_strs (s : Str) (ys : List Str) : inO (.str s) (ys.map .str) = some (ys.contains s) := by
  unfold inO
  have h1 : (cmpOk (.str s) && (ys.map PyData.str).all cmpOk) = true := by
    have : ∀ z : Str, cmpOk (.str z) = true := fun z => by simp [cmpOk, noDict, PyData.depth]
    simp [this]
  rw [if_pos h1]
  congr 1
  induction ys with
  | nil => rfl
  | cons y ys ih =>
    simp only [List.map_cons, List.any_cons, eqv_strs, List.contains_cons]
    rw [ih (by simp [cmpOk, noDict, PyData.depth])]
    congr 1
    exact Bool.eq_iff_iff.mpr ⟨fun h => by rw [eq_of_beq h]; simp, fun h => by rw [eq_of_beq h]; simp⟩
namespace K04
open PySem
abbrev P : Pg := ⟨fns, subOf sb, turns⟩
def isWithin (x : PyData) (l g : Int) : Bool := match x with
  | .int i => decide (l ≤ i) && decide (i ≤ g)
  | _ => false
theorem is_within_eq (k : Nat) (x : PyData) (l g : Int) (m : Mem) : callF P (k + 1) i_is_within [.d x, .d (.int l), .d (.int g)] m = .ok (.d (.bool (isWithin x l g))) m := by
  refine R.eq_of_wp (callF_wp P k _ _ m (f := f_is_within) rfl rfl ?_)
  cases x <;> simp [f_is_within, b_is_within, exs_one, isiD, isWithin]
  omega
def isLetter (x : PyData) : Bool := match x with
  | .str s => !(Builtin.Str.occurrences (Str.ofString "abcdefghijklmnopqrstuvwxyz") s 0 (Str.ofString "abcdefghijklmnopqrstuvwxyz").length 1).isEmpty
  | _ => false
def wordsSix : List Str := ["not", "both", "either", "turned", "chain", "some"]
def isName (x : PyData) : Bool := match x with
  | .str s => decide (1 ≤ s.length) && decide (s.length ≤ 8) && !wordsSix.contains s && (signs s).all isLetter
  | _ => false
theorem lookMade (s : Str) : (lookS s k_MADE_OF).isSome = wordsSix.contains s := lookS_mem s [("not", .int 1), ("both", .int 2), ("either", .int 2), ("turned", .int 1), ("chain", .int 2), ("some", .int 1)]
theorem mem_signs {x : PyData} {s : Str} (h : x ∈ signs s) : ∃ c ∈ s.cps.toList, x = .str ⟨#[c]⟩ := by
  unfold signs at h
  obtain ⟨c, hc, rfl⟩ := List.mem_map.mp h
  exact ⟨c, hc, rfl⟩
theorem signs_length (s : Str) : (signs s).length = s.length := by simp [signs, Str.length]
theorem is_notion_name_eq (k : Nat) (x : PyData) (m : Mem) : callF P (k + 1) i_is_notion_name [.d x] m = .ok (.d (.bool (isName x))) m := by
  refine R.eq_of_wp (callF_wp P k _ _ m (f := f_is_notion_name) rfl rfl ?_)
  cases x with
  | str s =>
    have hk : strKeys k_MADE_OF = true := rfl
    simp [f_is_notion_name, b_is_notion_name, w_exs_cons, isiD, k_MOST_LETTERS, k_SMALL_LETTERS, hk, lookMade]
    refine ⟨fun h1 => ⟨fun h8 => by simp [isName]; omega, fun h8 => ⟨fun hw => by simp [isName, hw], fun hw => ?_⟩⟩, fun h1 => by simp [isName]; omega⟩
    refine lcGo_map (fun x => .bool (isLetter x)) _ (by rw [signs_length]; unfold LINE; omega) (fun x hx => ?_) ?_
    · obtain ⟨c, hc, rfl⟩ := mem_signs hx
      simp [lcBody_wp, tgSet, wipeE, isLetter]
    · rw [all_new, boolL_map]
      simp [isName, hw, List.all_map]
      intro _; omega
  | _ => simp [f_is_notion_name, b_is_notion_name, w_exs_cons, isiD, isName]
def isNotion (x : PyData) : Bool := match x with
  | .tuple [a, b] => isName a && isWithin b 1 2
  | _ => false
theorem is_notion_eq (k : Nat) (x : PyData) (m : Mem) : callF P (k + 2) i_is_notion [.d x] m = .ok (.d (.bool (isNotion x))) m := by
  refine R.eq_of_wp (callF_wp P (k + 1) _ _ m (f := f_is_notion) rfl rfl ?_)
  cases x with
  | tuple xs =>
    match xs with
    | [a, b] =>
      simp [f_is_notion, b_is_notion, w_exs_cons, isiD, isNotion, k_MOST_PLACES, tgSet, is_notion_name_eq, is_within_eq]
      cases isName a <;> simp
    | [] => simp [f_is_notion, b_is_notion, w_exs_cons, isiD, isNotion]
    | [a] => simp [f_is_notion, b_is_notion, w_exs_cons, isiD, isNotion]
    | a :: b :: c :: r =>
      simp [f_is_notion, b_is_notion, w_exs_cons, isiD, isNotion]
      omega
  | _ => simp [f_is_notion, b_is_notion, w_exs_cons, isiD, isNotion]
/-- a notion's name -/
def nameOf (x : PyData) : Str := match x with
  | .tuple (.str s :: _) => s
  | _ => Str.empty
def noTwice : List Str → List PyData → Bool
  | _, [] => true
  | seen, x :: xs => !seen.contains (nameOf x) && noTwice (seen ++ [nameOf x]) xs
def isNotions (x : PyData) : Bool := match x with
  | .tuple xs => decide (1 ≤ xs.length) && decide (xs.length ≤ 3) && xs.all isNotion && noTwice [] xs
  | _ => false
theorem isNotion_form {x : PyData} (h : isNotion x = true) : ∃ s p, x = .tuple [.str s, .int p] ∧ isName (.str s) = true ∧ 1 ≤ p ∧ p ≤ 2 := by
  unfold isNotion at h
  split at h
  · rename_i a b
    simp only [Bool.and_eq_true] at h
    obtain ⟨h1, h2⟩ := h
    unfold isName at h1
    cases a <;> simp at h1
    unfold isWithin at h2
    cases b <;> simp at h2
    rename_i s p
    exact ⟨s, p, rfl, by simp [isName]; exact h1, h2.1, h2.2⟩
  · cases h
def addN (acc : List Str) (x : PyData) : Option (List Str) := addS (nameOf x) acc
theorem sc_len : ∀ (xs : List PyData) (acc : List Str), acc.length + xs.length < 4000 → ∃ r, xs.foldlM addN acc = some r ∧ r.length ≤ acc.length + xs.length ∧ (r.length == acc.length + xs.length) = noTwice acc xs
  | [], acc, _ => ⟨acc, rfl, by simp, by simp [noTwice]⟩
  | x :: xs, acc, h => by
    simp only [List.length_cons] at h
    by_cases hx : nameOf x ∈ acc
    · have e : addN acc x = some acc := by unfold addN addS; rw [if_pos (by omega), if_pos hx]
      obtain ⟨r, h1, h2, h3⟩ := sc_len xs acc (by omega)
      refine ⟨r, by rw [List.foldlM_cons, e]; exact h1, by simp; omega, ?_⟩
      simp [noTwice, hx]
      omega
    · have e : addN acc x = some (acc ++ [nameOf x]) := by unfold addN addS; rw [if_pos (by omega), if_neg hx]
      obtain ⟨r, h1, h2, h3⟩ := sc_len xs (acc ++ [nameOf x]) (by simp; omega)
      simp only [List.length_append, List.length_cons, List.length_nil] at h2 h3
      refine ⟨r, by rw [List.foldlM_cons, e]; exact h1, by simp; omega, ?_⟩
      simp only [noTwice, List.contains_eq_mem, hx, decide_false, Bool.not_false, Bool.true_and, ← h3, List.length_cons]
      rw [show acc.length + (0 + 1) + xs.length = acc.length + (xs.length + 1) by omega]
theorem is_notions_eq (k : Nat) (x : PyData) (m : Mem) : callF P (k + 3) i_is_notions [.d x] m = .ok (.d (.bool (isNotions x))) m := by
  refine R.eq_of_wp (callF_wp P (k + 2) _ _ m (f := f_is_notions) rfl rfl ?_)
  cases x with
  | tuple xs =>
    simp [f_is_notions, b_is_notions, w_exs_cons, isiD, k_MOST_NOTIONS]
    refine ⟨fun h1 => ⟨fun h3 => by simp [isNotions]; omega, fun h3 => ?_⟩, fun h1 => by simp [isNotions]; omega⟩
    refine lcGo_map (fun x => .bool (isNotion x)) _ (by unfold LINE; omega) (fun x hx => ?_) ?_
    · simp [lcBody_wp, tgSet, wipeE, is_notion_eq]
    · rw [all_new, boolL_map]
      simp
      refine ⟨fun x hx hn => ?_, fun hall => ?_⟩
      · simp [isNotions]
        intro _ _ hh; rw [hh x hx] at hn; cases hn
      · obtain ⟨r, e1, e2, e3⟩ := sc_len xs [] (by simp; omega)
        refine lcGo_pure (g := addN) xs [] (fun x hx acc => ?_) (fun r' hr' => ?_) ⟨r, e1⟩
        · obtain ⟨s, p, rfl, _⟩ := isNotion_form (hall x hx)
          simp [scBody_wp, tgSet, wipeE, addN, nameOf]
        · rw [e1] at hr'; cases hr'
          simp only [isNotions, List.length_nil, Nat.zero_add] at e3 ⊢
          rw [show xs.all isNotion = true from List.all_eq_true.mpr hall, ← e3, decide_eq_true (by omega : 1 ≤ xs.length), decide_eq_true (by omega : xs.length ≤ 3)]
          simp only [Bool.true_and, and_true, W.d.injEq, PyData.bool.injEq, fin_d, wp_ok, OS_some, cmpW, List.take_length]
          rw [Bool.eq_iff_iff]; simp; omega
  | _ => simp [f_is_notions, b_is_notions, w_exs_cons, isiD, isNotions]
theorem eq_n0 (r : List PyData) (m : Mem) (h : ∀ x ∈ r, x = .int 1) : cmpW .Eq (.new r) (.new []) m = some r.isEmpty := by
  have h1 : noDicts r = true := by
    induction r with
    | nil => rfl
    | cons x r ih => rw [h x (by simp)]; simp [noDicts, noDict, ih (fun y hy => h y (by simp [hy]))]
  have h2 : PyData.depthAll r = 0 := by
    induction r with
    | nil => rfl
    | cons x r ih => rw [h x (by simp)]; simp [PyData.depthAll, PyData.depth, ih (fun y hy => h y (by simp [hy])) (by rw [h x (by simp)] at h1; simpa [noDicts, noDict] using h1)]
  have h3 : cmpOk (.list r) = true := by simp [cmpOk, noDict, h1, PyData.depth, h2]
  have h4 : cmpOk (.list []) = true := by simp [cmpOk, noDict, noDicts, PyData.depth, PyData.depthAll]
  show eqO (.list r) (.list []) = _
  unfold eqO
  simp only [h3, h4, Bool.and_self, if_true, PyData.eqv]
  cases r <;> rfl
theorem law_is_name_eq (k : Nat) (x : PyData) (m : Mem) : callF P (k + 1) i__law_is_name [.d x] m = .ok (.d (.bool (isName x))) m := by
  refine R.eq_of_wp (callF_wp P k _ _ m (f := f__law_is_name) rfl rfl ?_)
  cases x with
  | str s =>
    simp [f__law_is_name, b__law_is_name, w_exs_cons, isiD]
    refine ⟨fun h1 => ⟨fun h8 => by simp [isName]; omega, fun h8 => ?_⟩, fun h1 => by simp [isName]; omega⟩
    rw [show ([PyData.str "not", .str "both", .str "either", .str "turned", .str "chain", .str "some"] : List PyData) = wordsSix.map .str from rfl, inO_strs]
    simp
    refine ⟨fun hw => by simp [isName, hw], fun hw => ?_⟩
    refine lcGo_list (fun x => if isLetter x then none else some (.int 1)) _ _ (by simp [signs_length]; unfold LINE; omega) (fun x hx => ?_) ?_
    · obtain ⟨c, hc, rfl⟩ := mem_signs hx
      simp [lcBody_wp, tgSet, wipeE, isLetter]
    · rw [eq_n0]
      · simp [isName, hw]
        rw [decide_eq_true (by omega : 1 ≤ s.length), decide_eq_true (by omega : s.length ≤ 8), Bool.eq_iff_iff]
        simp
      · intro x hx
        obtain ⟨y, _, hy⟩ := List.mem_filterMap.mp hx
        split at hy
        · cases hy
        · exact (Option.some.inj hy).symm
  | _ => simp [f__law_is_name, b__law_is_name, w_exs_cons, isiD, isName]
theorem law_is_from_eq (k : Nat) (x : PyData) (l g : Int) (m : Mem) : callF P (k + 1) i__law_is_from [.d x, .d (.int l), .d (.int g)] m = .ok (.d (.bool (isWithin x l g))) m := by
  refine R.eq_of_wp (callF_wp P k _ _ m (f := f__law_is_from) rfl rfl ?_)
  cases x <;> simp [f__law_is_from, b__law_is_from, exs_one, isiD, isWithin]
  omega
theorem noTwice_snoc : ∀ (xs : List PyData) (seen : List Str) (x : PyData), noTwice seen (xs ++ [x]) = (noTwice seen xs && !(seen ++ xs.map nameOf).contains (nameOf x))
  | [], seen, x => by simp [noTwice]
  | y :: ys, seen, x => by
    simp only [List.cons_append, noTwice, noTwice_snoc ys (seen ++ [nameOf y]) x, List.map_cons, List.append_assoc, Bool.and_assoc, List.singleton_append, List.cons_append, List.nil_append]
theorem noTwice_pre : ∀ (xs ys : List PyData) (seen : List Str), noTwice seen (xs ++ ys) = true → noTwice seen xs = true
  | [], _, _, _ => rfl
  | x :: xs, ys, seen, h => by
    simp only [List.cons_append, noTwice, Bool.and_eq_true] at h ⊢
    exact ⟨h.1, noTwice_pre xs ys _ h.2⟩
theorem law_are_notions_eq (k : Nat) (x : PyData) (m : Mem) : callF P (k + 2) i__law_are_notions [.d x] m = .ok (.d (.bool (isNotions x))) m := by
  refine R.eq_of_wp (callF_wp P (k + 1) _ _ m (f := f__law_are_notions) rfl rfl ?_)
  cases x with
  | tuple xs =>
    simp [f__law_are_notions, b__law_are_notions, w_exs_cons, isiD]
    refine ⟨fun h1 => ⟨fun h3 => by simp [isNotions]; omega, fun h3 => ?_⟩, fun h1 => by simp [isNotions]; omega⟩
    refine forGo_inv (fun j ρ m' => ∃ o, ρ = [some (.d (.tuple xs)), some (.ref m.length), o] ∧ m' = m ++ [.lst (((xs.take j).map nameOf).map .str)] ∧ (∀ x ∈ xs.take j, isNotion x = true) ∧ noTwice [] (xs.take j) = true) xs 0 _ _ ⟨_, rfl, by simp, by simp, rfl⟩ ?_ ?_
    · rintro i x ρ m' hx ⟨o, rfl, rfl, ha, hn⟩
      rw [Nat.zero_add] at *
      obtain ⟨hi, rfl⟩ := List.getElem?_eq_some_iff.mp hx
      have hall : isNotions (.tuple xs) = true → isNotion xs[i] = true ∧ noTwice [] (xs.take (i + 1)) = true := fun h => by
        simp only [isNotions, Bool.and_eq_true] at h
        refine ⟨List.all_eq_true.mp h.1.2 _ (List.getElem_mem hi), noTwice_pre _ (xs.drop (i + 1)) _ (by rw [List.take_append_drop]; exact h.2)⟩
      have htk : xs.take (i + 1) = xs.take i ++ [xs[i]] := by rw [List.take_add_one]; simp [hi]
      cases hxi : isNotion xs[i] with
      | false =>
        have hbad : isNotions (.tuple xs) = false := by
          cases h : isNotions (.tuple xs) with
          | false => rfl
          | true => rw [(hall h).1] at hxi; cases hxi
        simp only [tgSet, OS_some, List.set_cons_succ, List.set_cons_zero]
        generalize xs[i] = x at hxi
        generalize (List.map PyData.str (List.map nameOf (List.take i xs))) = L
        rw [hbad]
        cases x with
        | tuple ys =>
          match ys with
          | [a, b] =>
            simp only [isNotion, Bool.and_eq_false_iff] at hxi
            simp [w_exs_cons, isiD, law_is_name_eq, law_is_from_eq, atI, ixN]
            cases ha : isName a
            · simp
            · have hb : isWithin b 1 2 = false := by rcases hxi with h | h; rw [ha] at h; cases h; exact h
              simp [hb]
          | [] => simp [w_exs_cons, isiD]
          | [a] => simp [w_exs_cons, isiD]
          | a :: b :: c :: r =>
            simp [w_exs_cons, isiD]
            intro h; exfalso; omega
        | _ => simp [w_exs_cons, isiD]
      | true =>
        obtain ⟨s, p, e, hs, hp1, hp2⟩ := isNotion_form hxi
        have hw : isWithin (.int p) 1 2 = true := by simp [isWithin]; omega
        simp only [tgSet, OS_some, List.set_cons_succ, List.set_cons_zero]
        have hL : (m ++ [.lst (((xs.take i).map nameOf).map .str)])[m.length]? = some (.lst (((xs.take i).map nameOf).map .str)) := get_last _ _
        have hlen : (((xs.take i).map nameOf).map PyData.str).length < LINE := by simp; unfold LINE; omega
        have hnm : nameOf xs[i] = s := by rw [e]; rfl
        rw [htk, List.map_append, List.map_append]
        have h2 : noTwice [] (xs.take i ++ [xs[i]]) = !((xs.take i).map nameOf).contains s := by rw [noTwice_snoc, hn, hnm]; simp
        have h4 : ((xs.take i).map nameOf).contains s = true → isNotions (.tuple xs) = false := fun h => by
          cases hh : isNotions (.tuple xs) with
          | false => rfl
          | true => have := (hall hh).2; rw [htk, h2, h] at this; cases this
        generalize hns : (xs.take i).map nameOf = ns at *
        simp [w_exs_cons, isiD, law_is_name_eq, law_is_from_eq, atI, ixN, e, hs, hw, in_ref _ hL, inO_strs, append_wp _ hL hlen, recv_append hL]
        refine ⟨fun h => h4 (by simpa using h), fun h => ⟨rfl, ?_, ?_⟩⟩
        · rintro x (h' | rfl)
          · exact ha x h'
          · rwa [e] at hxi
        · rw [← e, h2]; simpa using h
    · rintro ρ m' ⟨o, rfl, rfl, ha, hn⟩
      simp at ha hn
      simp [isNotions, hn]
      refine ⟨by omega, ha⟩
  | _ => simp [f__law_are_notions, b__law_are_notions, w_exs_cons, isiD, isNotions]
end K04
end Lo
namespace Lo
open PySem
structure Pool where
  a : Int
  b : Int
  c : Int
def poolM (p : Pool) : MO := .lst [.int p.a, .int p.b, .int p.c]
structure PGood (B : Int) (p : Pool) : Prop where
  a0 : 0 ≤ p.a
  c0 : 0 ≤ p.c
  cB : p.c ≤ B
theorem PGood.mono {B B' : Int} {p : Pool} (h : PGood B p) (h2 : B ≤ B') : PGood B' p := ⟨h.a0, h.c0, Int.le_trans h.cB h2⟩
theorem pow_small {i : Int} (h0 : 0 ≤ i) (h : i < 18446744073709551616) : i.natAbs < 2 ^ 64 := by omega
theorem set_set (m : Mem) (n : Nat) (a b : MO) : (m.set n a).set n b = m.set n b := List.set_set ..
namespace K04
theorem take_wp (k : Nat) {m : Mem} {n : Nat} {p : Pool} (hm : m[n]? = some (poolM p)) {B : Int} (hp : PGood B p) (hB : B < 10000000) {many : Int} (h0 : 0 < many) (h1 : many < 1073741824) {Q : W → Mem → Prop} {E : Nat → Mem → Prop}
    (hq : ∀ d p', PGood (B + 1) p' → 0 ≤ d → d < many → Q (.d (.int d)) (m.set n (poolM p'))) : (callF P (k + 1) i__law_take [.ref n, .d (.int many)] m).wp Q E := by
  refine callF_wp P k _ _ m (f := f__law_take) rfl rfl ?_
  obtain ⟨a, b, c⟩ := p
  obtain ⟨ha, hc, hcB⟩ := hp
  simp only at ha hc hcB
  have hn : n < m.length := (List.getElem?_eq_some_iff.mp hm).1
  have hl : ∀ x, (m.set n x)[n]? = some x := fun x => by simp [hn]
  have i0 : atI [PyData.int a, .int b, .int c] 0 = some (.int a) := rfl
  have i1 : atI [PyData.int a, .int b, .int c] 1 = some (.int b) := rfl
  have i2 : atI [PyData.int a, .int b, .int c] 2 = some (.int c) := rfl
  have j0 : ixN 3 0 = some 0 := rfl
  have j2 : ixN 3 2 = some 2 := rfl
  have hm' : m[n]? = some (.lst [.int a, .int b, .int c]) := hm
  have hl2 : (m.set n (.lst [.int a, .int b, .int (c + 1)]))[n]? = some (.lst [.int a, .int b, .int (c + 1)]) := hl _
  have i1' : atI [PyData.int a, .int b, .int (c + 1)] 1 = some (.int b) := rfl
  have i2' : atI [PyData.int a, .int b, .int (c + 1)] 2 = some (.int (c + 1)) := rfl
  have tk : ∀ x, (m.set n x).take m.length = m.set n x := fun x => by rw [List.take_of_length_le]; simp
  have s1 : small64 48271 = true := by decide
  have s2 : small64 104729 = true := by decide
  have s3 : small64 69621 = true := by decide
  have s4 : small64 (c + 1) = true := by simp [small64]; omega
  have s5 : small64 40692 = true := by decide
  simp [f__law_take, b__law_take, w_exs_cons, ix_ref _ hm', i0, i1, i2, put_ref _ _ hm', j0, j2, h0, h1]
  refine ⟨fun h => ?_, fun h => ?_⟩
  · rw [tk]
    refine hq (a % many) ⟨a / many, b, c⟩ ⟨Int.ediv_nonneg ha (by omega), hc, by simp only; omega⟩ (Int.emod_nonneg _ (by omega)) (Int.emod_lt_of_pos _ h0)
  · simp [ix_ref _ hl2, i1', i2', s1, s2, s3, s4, s5, tk, h0]
    generalize ho : (b * 48271 + 104729 * (c + 1) + 101) % 2147483629 = one
    have o0 : 0 ≤ one := by omega
    have o1 : one < 2147483629 := by omega
    refine ⟨by omega, ?_⟩
    generalize hp : one ^ 5 % 2147483587 = two
    have t0 : 0 ≤ two := by omega
    have t1 : two < 2147483587 := by omega
    have q0 : 0 ≤ 69621 * (c + 1) * (c + 1) := Int.mul_nonneg (Int.mul_nonneg (by omega) (by omega)) (by omega)
    have q1 : 69621 * (c + 1) * (c + 1) ≤ 69621 * 10000000 * 10000000 := Int.mul_le_mul (by omega) (by omega) (by omega) (by omega)
    refine ⟨by omega, ?_⟩
    refine hq _ ⟨a, b, c + 1⟩ ⟨ha, by simp only; omega, by simp only; omega⟩ (Int.emod_nonneg _ (by omega)) (Int.emod_lt_of_pos _ h0)
end K04
end Lo
namespace Lo
open PySem
theorem intL_map : ∀ ns : List Int, intL (ns.map .int) = some ns
  | [] => rfl
  | n :: ns => by simp only [List.map_cons, intL, intL_map ns, Option.map_some]
theorem pickL_map {α β : Type} (f : α → β) (xs : List α) (a b k : Option Int) : pickL (xs.map f) a b k = (pickL xs a b k).map f := by
  unfold pickL
  rw [List.length_map, List.map_filterMap]
  congr; funext i; simp
theorem step_ro (xs : List PyData) (a b : Option Int) (k : Int) (m : Mem) (h : k ≠ 0) : stepW (.ro xs) a b (some k) m = some (.new (pickL xs a b (some k))) := by
  simp only [stepW, listR, ne_eq, Option.some.injEq, h, not_false_eq_true, if_true]
theorem sum_new (ns : List Int) (m : Mem) : biW .sum [.new (ns.map .int)] m = some (.d (.int ns.sum)) := by
  show (match (listOf m (.new (ns.map .int))).bind intL with | some ns => some (W.d (.int ns.sum)) | none => none) = _
  simp only [listOf, Option.bind_some, intL_map]
theorem rng1 (j : Int) (h0 : 0 ≤ j) (h : j ≤ 16777216) : rngW [.d (.int j)] = some (.it ((List.range j.toNat).map fun k => .int (k : Nat))) := by
  simp only [rngW]; rw [if_pos ⟨by omega, by omega, h⟩]
theorem rng_mem {n i : Nat} {x : PyData} (h : ((List.range n).map fun k => PyData.int (k : Nat))[i]? = some x) : i < n ∧ x = .int i := by
  obtain ⟨hi, rfl⟩ := List.getElem?_eq_some_iff.mp h
  simp at hi ⊢; exact hi
namespace K04
def foldedL (ns : List Int) (top : Nat) : List Int := (List.range (max 1 (min top ns.length))).map fun j => (pickL ns (some (j : Nat)) (some 63) (some top)).sum
theorem folded_eq (k : Nat) (ns : List Int) (top : Nat) (h0 : 0 < top) (h1 : top ≤ 1000) (m : Mem) : callF P (k + 1) i__law_folded [.ro (ns.map .int), .d (.int top)] m = .ok (.new ((foldedL ns top).map .int)) m := by
  refine R.eq_of_wp (callF_wp P k _ _ m (f := f__law_folded) rfl rfl ?_)
  simp [f__law_folded, b__law_folded, w_exs_cons]
  have e : (if 1 < (if ns.length < top then (ns.length : Int) else top) then (if ns.length < top then (ns.length : Int) else top) else 1) = ((max 1 (min top ns.length) : Nat) : Int) := by split <;> split <;> omega
  rw [e, rng1 _ (by omega) (by omega)]
  simp
  refine lcGo_map (fun x => match x with | .int j => .int (pickL ns (some j) (some 63) (some top)).sum | x => x) _ (by simp; unfold LINE; omega) (fun x hx => ?_) ?_
  · obtain ⟨j, hj, rfl⟩ := List.mem_map.mp hx
    simp [lcBody_wp, tgSet, wipeE, step_ro _ _ _ _ _ (show (top : Int) ≠ 0 by omega), pickL_map, sum_new]
  · simp [foldedL]
theorem pool_eq (k : Nat) (cs : List Int) (j : Nat) (m : Mem) : ∃ p : Pool, callF P (k + 1) i__law_pool [.d (.list (cs.map .int)), .d (.int j)] m = .ok (.new [.int p.a, .int p.b, .int p.c]) m ∧ 0 ≤ p.a ∧ p.c = 7919 * j + 1 := by
  have s1 : small64 7919 = true := by decide
  refine ⟨⟨if 0 < (cs[j]?.getD 0) - 10 ^ 18 then (cs[j]?.getD 0) - 10 ^ 18 else 0, (cs[j]?.getD 0) % 1000000007, 7919 * j + 1⟩, ?_, by simp only; split <;> omega, rfl⟩
  refine R.eq_of_wp (callF_wp P k _ _ m (f := f__law_pool) rfl rfl ?_)
  simp [f__law_pool, b__law_pool, w_exs_cons, s1]
  refine ⟨fun h => ?_, fun h => ?_⟩
  · rw [atI_nat (by omega) (by simpa using h)]
    simp [List.getElem?_eq_getElem h]
    exact Or.inl (by decide)
  · simp [List.getElem?_eq_none h]
end K04
end Lo
namespace Lo
open PySem
def okS (s : Str) : Prop := ∀ c ∈ s.cps.toList, c < 16 ^ 8
theorem toL_append (a b : Str) : (a ++ b).cps.toList = a.cps.toList ++ b.cps.toList := by
  show (a.cps ++ b.cps).toList = _
  simp
theorem len_toL (a : Str) : a.length = a.cps.toList.length := by simp [Str.length]
theorem str_ext {a b : Str} (h : a.cps.toList = b.cps.toList) : a = b := by
  cases a; cases b; congr; simpa using h
theorem okS_append {a b : Str} (ha : okS a) (hb : okS b) : okS (a ++ b) := fun c hc => by
  rw [toL_append, List.mem_append] at hc
  exact hc.elim (ha c) (hb c)
theorem okS_one {c : Nat} (h : c < 16 ^ 8) : okS ⟨#[c]⟩ := fun x hx => by simp at hx; rw [hx]; exact h
theorem cut_sub {α : Type} (xs : List α) (a b : Option Int) : ∀ x ∈ cut xs a b, x ∈ xs := fun x hx => List.drop_subset _ _ (List.take_subset _ _ hx)
theorem okS_cut {s : Str} (h : okS s) (a b : Option Int) : okS (cutStr s a b) := fun c hc => h c (cut_sub _ _ _ c (by simpa [cutStr] using hc))
theorem cut_to {α : Type} (xs : List α) (i : Nat) : cut xs none (some (i : Int)) = xs.take i := by
  unfold cut sIx
  simp
  rw [if_neg (by omega)]
  omega
theorem cut_from {α : Type} (xs : List α) (i : Nat) : cut xs (some (i : Int)) none = xs.drop i := by
  unfold cut sIx
  simp
  rw [if_neg (by omega)]
  by_cases h : i ≤ xs.length
  · rw [Nat.min_eq_left h, List.take_of_length_le (by simp)]
  · rw [Nat.min_eq_right (by omega), Nat.sub_self, List.take_zero, List.drop_of_length_le (by omega)]
theorem cutStr_to (s : Str) (i : Nat) : (cutStr s none (some (i : Int))).cps.toList = s.cps.toList.take i := by simp [cutStr, cut_to]
theorem cutStr_from (s : Str) (i : Nat) : (cutStr s (some (i : Int)) none).cps.toList = s.cps.toList.drop i := by simp [cutStr, cut_from]
def okL (s : Str) : Prop := ∀ c ∈ s.cps.toList, 97 ≤ c ∧ c < 123
theorem okL.s {s : Str} (h : okL s) : okS s := fun c hc => Nat.lt_trans (h c hc).2 (by decide)
theorem okL_append {a b : Str} (ha : okL a) (hb : okL b) : okL (a ++ b) := fun c hc => by
  rw [toL_append, List.mem_append] at hc
  exact hc.elim (ha c) (hb c)
theorem okL_one {c : Nat} (h : 97 ≤ c ∧ c < 123) : okL ⟨#[c]⟩ := fun x hx => by simp at hx; rw [hx]; exact h
theorem okL_cut {s : Str} (h : okL s) (a b : Option Int) : okL (cutStr s a b) := fun c hc => h c (cut_sub _ _ _ c (by simpa [cutStr] using hc))
/-- xs without twice within ys is no longer -/
theorem pigeon {α : Type} [DecidableEq α] : ∀ (xs ys : List α), xs.Nodup → (∀ x ∈ xs, x ∈ ys) → xs.length ≤ ys.length
  | [], _, _, _ => by simp
  | x :: xs, ys, hn, hs => by
    have hx : x ∈ ys := hs x (by simp)
    have h := pigeon xs (ys.erase x) (List.nodup_cons.mp hn).2 (fun y hy => by
      have hne : y ≠ x := fun e => (List.nodup_cons.mp hn).1 (e ▸ hy)
      exact (List.mem_erase_of_ne hne).mpr (hs y (by simp [hy])))
    rw [List.length_erase_of_mem hx] at h
    have : 0 < ys.length := List.length_pos_of_mem hx
    simp only [List.length_cons]; omega
theorem join_empty : ∀ ss : List Str, (Str.join (Str.ofString "") ss).cps.toList = ss.flatMap fun s => s.cps.toList
  | [] => rfl
  | [x] => by simp [Str.join]
  | x :: y :: r => by
    have h := join_empty (y :: r)
    simp only [Str.join, toL_append, h, List.flatMap_cons]
    have : (Str.ofString "").cps.toList = [] := by decide +kernel
    simp [this]
theorem join_new (z : Str) (ss : List Str) (m : Mem) (h : joinLen z ss ≤ LINE) : mtW .join (.d (.str z)) [.new (ss.map .str)] m = .ok (.d (.str (Str.join z ss))) m := by
  simp only [mtW, listOf, Option.bind_some, strL_map, if_pos h]
theorem set_app {m : Mem} {n : Nat} (hn : n < m.length) (c x : MO) : (m ++ [c]).set n x = m.set n x ++ [c] := List.set_append_left _ _ hn
theorem get_app {m : Mem} {n : Nat} (hn : n < m.length) (c : MO) : (m ++ [c])[n]? = m[n]? := List.getElem?_append_left hn
theorem atI_in {α : Type} {xs : List α} {i : Int} (h0 : 0 ≤ i) (h : i < xs.length) : ∃ x ∈ xs, atI xs i = some x :=
  ⟨xs[i.toNat]'(by omega), List.getElem_mem _, atI_nat h0 (by omega)⟩
instance decOkS (s : Str) : Decidable (okS s) := inferInstanceAs (Decidable (∀ c ∈ s.cps.toList, c < 16 ^ 8))
instance decOkL (s : Str) : Decidable (okL s) := inferInstanceAs (Decidable (∀ c ∈ s.cps.toList, 97 ≤ c ∧ c < 123))
namespace K04
def okN (w : Str) : Prop := 1 ≤ w.length ∧ w.length ≤ 8 ∧ okL w
theorem okN.s {w : Str} (h : okN w) : okS w := h.2.2.s
def abc : Str := "abcdefghijklmnopqrstuvwxyz"
theorem abc_toL : abc.cps.toList = List.range' 97 26 := by decide +kernel
def cand (w : Str) (i : Nat) (s : Str) : Str := cutStr w none (some (i : Int)) ++ s ++ cutStr w (some ((i + 1 : Nat) : Int)) none
theorem cand_toL (w : Str) (i : Nat) (c : Nat) : (cand w i ⟨#[c]⟩).cps.toList = w.cps.toList.take i ++ [c] ++ w.cps.toList.drop (i + 1) := by
  unfold cand
  rw [toL_append, toL_append, cutStr_to, cutStr_from]
theorem cand_ok {w : Str} {i c : Nat} (hw : okN w) (hi : i < w.length) (hc : 97 ≤ c ∧ c < 123) : okN (cand w i ⟨#[c]⟩) := by
  obtain ⟨h1, h2, h3⟩ := hw
  have e : (cand w i ⟨#[c]⟩).length = w.length := by
    rw [len_toL, cand_toL]; rw [len_toL] at hi ⊢
    simp only [List.length_append, List.length_take, List.length_drop, List.length_cons, List.length_nil]; omega
  exact ⟨by omega, by omega, okL_append (okL_append (okL_cut h3 _ _) (okL_one hc)) (okL_cut h3 _ _)⟩
theorem cands_fresh {w : Str} {i : Nat} (ws : List Str) (h : ws.length < 26) : ∃ c ∈ abc.cps.toList, cand w i ⟨#[c]⟩ ∉ ws := by
  refine Classical.byContradiction fun hno => ?_
  have hall : ∀ c ∈ abc.cps.toList, cand w i ⟨#[c]⟩ ∈ ws := fun c hc => Classical.byContradiction fun h => hno ⟨c, hc, h⟩
  have inj : ∀ a b : Nat, cand w i ⟨#[a]⟩ = cand w i ⟨#[b]⟩ → a = b := fun a b e => by
    have e2 := congrArg (fun s : Str => s.cps.toList) e
    simp only [cand_toL, List.append_assoc, List.append_cancel_left_eq, List.cons_append, List.nil_append, List.cons.injEq] at e2
    exact e2.1
  have hp := pigeon (abc.cps.toList.map fun c => cand w i ⟨#[c]⟩) ws (by
    rw [List.nodup_iff_pairwise_ne, List.pairwise_map]
    exact (List.nodup_iff_pairwise_ne.mp (by rw [abc_toL]; exact List.nodup_range')).imp fun h e => h (inj _ _ e)) (fun x hx => by
      obtain ⟨c, hc, rfl⟩ := List.mem_map.mp hx
      exact hall c hc)
  rw [List.length_map, abc_toL] at hp
  simp at hp; omega
theorem exs_mid {F : Cs} {s : Sm} {r : List Sm} {ρ : En} {m : Mem} {Q : Fl → En → Mem → Prop} {E : Nat → En → Mem → Prop} (R : En → Mem → Prop) (h1 : (ex F s ρ m).wp (fun f ρ m => f = .nx ∧ R ρ m) E) (h2 : ∀ ρ m, R ρ m → (exs F r ρ m).wp Q E) : (exs F (s :: r) ρ m).wp Q E := by
  rw [w_exs_cons]
  refine RS.wp_mono h1 ?_ (fun _ _ _ h => h)
  rintro f ρ m ⟨rfl, h⟩
  exact h2 ρ m h
theorem join_ok (ss : List Str) (h : ∀ s ∈ ss, s.length = 1 ∧ okL s) : (Str.join (Str.ofString "") ss).length = ss.length ∧ okL (Str.join (Str.ofString "") ss) := by
  constructor
  · rw [len_toL, join_empty]
    induction ss with
    | nil => rfl
    | cons a r ih => rw [List.flatMap_cons, List.length_append, ih (fun s hs => h s (by simp [hs])), ← len_toL, (h a (by simp)).1]; simp; omega
  · intro c hc
    rw [join_empty] at hc
    obtain ⟨s, hs, hc⟩ := List.mem_flatMap.mp hc
    exact (h s hs).2 c hc
theorem sum_ones (ss : List Str) (h : ∀ s ∈ ss, s.length = 1 ∧ okL s) : (ss.map Str.length).sum = ss.length := by
  induction ss with
  | nil => rfl
  | cons a r ih => rw [List.map_cons, List.sum_cons, ih (fun s hs => h s (by simp [hs])), (h a (by simp)).1]; simp; omega
theorem cut_len {α : Type} (xs : List α) (a b : Option Int) : (cut xs a b).length ≤ xs.length := by
  unfold cut
  refine Nat.le_trans (List.length_take_le' _ _) ?_
  simp
def freshH (ws : List Str) (x : PyData) : Option PyData := match x with
  | .str s => if ws.contains s then none else some (.str s)
  | _ => none
def candH (w : Str) (a : Nat) (x : PyData) : PyData := match x with
  | .str s => .str (cand w a s)
  | x => x
theorem fresh_some {w : Str} {a : Nat} {ws : List Str} (hw : okN w) (ha : a < w.length) (hl : ws.length < 26) : ∃ s r, (PyData.str w :: (signs abc).map (candH w a)).filterMap (freshH ws) = .str s :: r ∧ okN s ∧ s ∉ ws := by
  obtain ⟨c, hc, hf⟩ := cands_fresh (w := w) (i := a) ws hl
  have hin : PyData.str (cand w a ⟨#[c]⟩) ∈ (PyData.str w :: (signs abc).map (candH w a)).filterMap (freshH ws) := by
    rw [List.mem_filterMap]
    refine ⟨.str (cand w a ⟨#[c]⟩), ?_, by simp [freshH, hf]⟩
    refine List.mem_cons_of_mem _ (List.mem_map.mpr ⟨.str ⟨#[c]⟩, ?_, rfl⟩)
    exact List.mem_map.mpr ⟨c, hc, rfl⟩
  cases hr : (PyData.str w :: (signs abc).map (candH w a)).filterMap (freshH ws) with
  | nil => rw [hr] at hin; cases hin
  | cons y r =>
    have hy : y ∈ (PyData.str w :: (signs abc).map (candH w a)).filterMap (freshH ws) := by rw [hr]; simp
    obtain ⟨x, hx, e⟩ := List.mem_filterMap.mp hy
    rcases List.mem_cons.mp hx with rfl | hx
    · simp only [freshH] at e
      split at e
      · cases e
      · rename_i hn; cases e; exact ⟨w, r, rfl, hw, by simpa using hn⟩
    · obtain ⟨z, hz, rfl⟩ := List.mem_map.mp hx
      obtain ⟨d, hd, rfl⟩ := mem_signs hz
      simp only [candH, freshH] at e
      split at e
      · cases e
      · rename_i hn
        cases e
        have : 97 ≤ d ∧ d < 123 := by rw [abc_toL] at hd; simp at hd; omega
        exact ⟨_, r, rfl, cand_ok hw ha this, by simpa using hn⟩
theorem sl_ref {m : Mem} {n : Nat} {ys : List PyData} (a b : Option Int) (h : m[n]? = some (.lst ys)) : slW (.ref n) a b m = some (.new (cut ys a b)) := by
  simp only [slW, listR, listOf, h]
theorem join_recv (z : Str) (m : Mem) : recvOk .join (.d (.str z)) m = true := rfl
theorem nd_snoc {α : Type} {xs : List α} {x : α} (h : xs.Nodup) (hx : x ∉ xs) : (xs ++ [x]).Nodup := by
  rw [List.nodup_append]
  refine ⟨h, by simp, fun a ha b hb => ?_⟩
  simp at hb; subst hb
  exact fun e => hx (e ▸ ha)
theorem letters_ok : ∀ c ∈ List.range' 97 26, isLetter (.str ⟨#[c]⟩) = true := by decide +kernel
theorem isName_of {w : Str} (h : okN w) (h6 : w ∉ wordsSix) : isName (.str w) = true := by
  simp [isName, h.1, h.2.1, h6]
  intro x hx
  obtain ⟨c, hc, rfl⟩ := mem_signs hx
  exact letters_ok c (by have := h.2.2 c hc; simp; omega)
theorem names_wp (k : Nat) {m : Mem} {n : Nat} {p : Pool} (hm : m[n]? = some (poolM p)) {B : Int} (hp : PGood B p) (many : Nat) (h1 : many ≤ 3) (hB : B + 1 + 12 * (many : Int) < 10000000) {Q : W → Mem → Prop} {E : Nat → Mem → Prop}
    (hq : ∀ (ws : List Str) p', PGood (B + 1 + 12 * (many : Int)) p' → ws.length = many → (∀ w ∈ ws, okN w ∧ isName (.str w) = true) → ws.Nodup → Q (.new (ws.map .str)) (m.set n (poolM p'))) : (callF P (k + 2) i__law_names [.ref n, .d (.int many)] m).wp Q E := by
  refine callF_wp P (k + 1) _ _ m (f := f__law_names) rfl rfl ?_
  have hn : n < m.length := (List.getElem?_eq_some_iff.mp hm).1
  have hl : ∀ p, (m.set n (poolM p))[n]? = some (poolM p) := fun p => by simp [hn]
  unfold f__law_names b__law_names
  refine exs_step _ _ _ _ _ _ _ ?_
  simp
  refine take_wp k hm hp (by omega) (by decide) (by decide) fun d p1 hp1 hd0 hd1 => ?_
  obtain ⟨L, hL, eL⟩ := atI_in (xs := [PyData.str "abcdefghijklmnopqrstuvwxyz", PyData.str "ab"]) hd0 (by simpa using hd1)
  have hLs : ∃ Ls : Str, L = .str Ls ∧ 1 ≤ Ls.length ∧ Ls.length ≤ 26 ∧ okL Ls := by
    simp at hL
    rcases hL with rfl | rfl
    · exact ⟨_, rfl, by decide +kernel, by decide +kernel, by decide +kernel⟩
    · exact ⟨_, rfl, by decide +kernel, by decide +kernel, by decide +kernel⟩
  obtain ⟨Ls, rfl, hL1, hL2, hLo⟩ := hLs
  simp [eL]
  refine exs_step _ _ _ _ _ _ _ ?_
  simp
  rw [w_exs_cons]
  simp [rng1 (many : Int) (by omega) (by omega)]
  rw [show ([PyData.str "not", .str "both", .str "either", .str "turned", .str "chain", .str "some"] : List PyData) = wordsSix.map .str from rfl]
  have h6 : ∀ w ∈ wordsSix, okN w := by
    have : ∀ w ∈ wordsSix, 1 ≤ w.length ∧ w.length ≤ 8 ∧ okL w := by decide +kernel
    exact this
  have l6 : wordsSix.length = 6 := rfl
  have n6 : wordsSix.Nodup := by decide +kernel
  obtain ⟨w6, hw6⟩ : ∃ w6, w6 = wordsSix := ⟨_, rfl⟩
  rw [← hw6] at h6 l6 n6
  conv in (wordsSix.map PyData.str) => rw [← hw6]
  refine forGo_inv (fun j ρ m' => ∃ o4 o5 o6 o7 o8 o9 o10, ∃ ws : List Str, ∃ p, ρ = [some (.ref n), some (.d (.int many)), some (.d (.str Ls)), some (.ref m.length), o4, o5, o6, o7, o8, o9, o10] ∧ m' = m.set n (poolM p) ++ [.lst (ws.map .str)] ∧ PGood (B + 1 + 12 * (j : Int)) p ∧ ws.length = 6 + j ∧ (∀ w ∈ ws, okN w) ∧ ws.Nodup ∧ ∃ r, ws = wordsSix ++ r) _ 0 _ _ ⟨_, _, _, _, _, _, _, w6, p1, rfl, rfl, by simpa using hp1, by omega, h6, n6, [], by rw [hw6]; simp⟩ ?_ ?_
  · rintro i x ρ m' hx ⟨o4, o5, o6, o7, o8, o9, o10, ws, p, rfl, rfl, hp, hws, hok, hnd, hpre⟩
    obtain ⟨hi, rfl⟩ := rng_mem hx
    rw [Nat.zero_add] at *
    have hg : ∀ p c, (m.set n (poolM p) ++ [c])[n]? = some (poolM p) := fun p c => by rw [get_app (by simpa using hn)]; exact hl p
    have hs : ∀ p p' c, (m.set n (poolM p) ++ [c]).set n (poolM p') = m.set n (poolM p') ++ [c] := fun p p' c => by rw [set_app (by simpa using hn), List.set_set]
    simp only [tgSet, OS_some, List.set_cons_succ, List.set_cons_zero]
    refine exs_mid (fun ρ' m' => ∃ w p, okN w ∧ ρ' = [some (.ref n), some (.d (.int many)), some (.d (.str Ls)), some (.ref m.length), some (.d (.int i)), some (.d (.str w)), o6, o7, o8, o9, o10] ∧ m' = m.set n (poolM p) ++ [.lst (ws.map .str)] ∧ PGood (B + 1 + 12 * (i : Int) + 9) p) ?_ ?_
    · simp [join_recv]
      refine take_wp k (hg _ _) hp (by omega) (by decide) (by decide) fun d p1 hp1 hd0 hd1 => ?_
      simp [rng1 (1 + d) (by omega) (by omega), hs]
      refine lcGo_inv (fun j acc m' => ∃ p, ∃ ss : List Str, acc = ss.map .str ∧ ss.length = j ∧ (∀ s ∈ ss, s.length = 1 ∧ okL s) ∧ m' = m.set n (poolM p) ++ [.lst (ws.map .str)] ∧ PGood (B + 1 + 12 * (i : Int) + 1 + j) p) _ 0 [] _ ⟨p1, [], rfl, rfl, by simp, rfl, by simpa using hp1⟩ ?_ ?_
      · rintro j x acc m' hx ⟨p, ss, rfl, hss, hso, rfl, hp⟩
        obtain ⟨hj, rfl⟩ := rng_mem hx
        rw [Nat.zero_add] at *
        simp [lcBody_wp, tgSet, wipeE]
        refine take_wp k (hg _ _) hp (by omega) (by omega) (by omega) fun d p1 hp1 hd0 hd1 => ?_
        obtain ⟨c, hc, ec⟩ := atI_in (xs := Ls.cps.toList) hd0 (by rw [← len_toL]; exact hd1)
        simp [ec, hs]
        rw [show addL (.str ⟨#[c]⟩) (ss.map .str) = some ((ss ++ [(⟨#[c]⟩ : Str)]).map .str) by unfold addL; rw [if_pos (by simp; unfold LINE; omega)]; simp]
        simp only [OS_some]
        refine ⟨p1, _, rfl, by simp; omega, ?_, rfl, hp1.mono (by omega)⟩
        intro s hs
        simp at hs
        rcases hs with hs | rfl
        · exact hso s hs
        · exact ⟨rfl, okL_one (hLo c hc)⟩
      · rintro acc m' ⟨p, ss, rfl, hss, hso, rfl, hp⟩
        simp at hss hp
        obtain ⟨j1, j2⟩ := join_ok ss hso
        rw [join_new _ _ _ (by unfold joinLen; rw [sum_ones ss hso, show (Str.ofString "").length = 0 by decide +kernel]; unfold LINE; omega)]
        simp
        exact ⟨_, ⟨by omega, by omega, j2⟩, rfl, p, rfl, hp.mono (by omega)⟩
    rintro ρ m' ⟨w, p, hw, rfl, rfl, hp⟩
    refine exs_mid (fun ρ' m' => ∃ w p, okN w ∧ ρ' = [some (.ref n), some (.d (.int many)), some (.d (.str Ls)), some (.ref m.length), some (.d (.int i)), some (.d (.str w)), o6, o7, o8, o9, o10] ∧ m' = m.set n (poolM p) ++ [.lst (ws.map .str)] ∧ PGood (B + 1 + 12 * (i : Int) + 10) p) ?_ ?_
    · simp
      refine ⟨fun h => ?_, fun h => ⟨w, hw, rfl, p, rfl, hp.mono (by omega)⟩⟩
      refine take_wp k (hg _ _) hp (by omega) (by decide) (by decide) fun d p1 hp1 hd0 hd1 => ?_
      simp [hs, exs_one]
      refine ⟨fun h => ?_, fun h => ⟨w, hw, rfl, p1, rfl, hp1.mono (by omega)⟩⟩
      have hlast : ∃ w' ∈ ws, atI (ws.map PyData.str) (-1) = some (.str w') := by
        refine ⟨ws[ws.length - 1]'(by omega), List.getElem_mem _, ?_⟩
        simp [atI, ixN]
        rw [if_pos (by omega), show (-1 + (ws.length : Int)).toNat = ws.length - 1 by omega]
        simp
      obtain ⟨w', hw', e⟩ := hlast
      have hL' : (m.set n (poolM p1) ++ [.lst (ws.map .str)])[m.length]? = some (.lst (ws.map .str)) := by simp
      simp [ix_ref _ hL', e]
      exact ⟨w', hok w' hw', rfl, p1, rfl, hp1.mono (by omega)⟩
    rintro ρ m' ⟨w, p, hw, rfl, rfl, hp⟩
    refine exs_step _ _ _ _ _ _ _ ?_
    simp
    refine take_wp k (hg _ _) hp (by omega) (by have := hw.1; omega) (by have := hw.2.1; omega) fun d p1 hp1 hd0 hd1 => ?_
    simp [hs]
    refine exs_step _ _ _ _ _ _ _ ?_
    simp
    obtain ⟨a, rfl⟩ : ∃ a : Nat, d = a := ⟨d.toNat, by omega⟩
    refine lcGo_map (candH w a) _ (by rw [signs_length]; decide +kernel) (fun x hx => ?_) ?_
    · obtain ⟨c, hc, rfl⟩ := mem_signs hx
      simp [lcBody_wp, tgSet, wipeE]
      have lc : ∀ x y, (cutStr w x y).length ≤ 8 := fun x y => by
        have := hw.2.1
        rw [len_toL] at this ⊢
        simp only [cutStr]
        exact Nat.le_trans (cut_len _ _ _) this
      refine ⟨?_, ?_, rfl⟩
      · have := lc none (some (a : Int)); simp [Str.length] at this ⊢; unfold LINE; omega
      · rw [len_toL, toL_append, List.length_append, ← len_toL]
        have := lc none (some (a : Int)); have := lc (some ((a : Int) + 1)) none; simp; unfold LINE; omega
    · simp
      refine ⟨by rw [signs_length]; decide +kernel, ?_⟩
      refine exs_step _ _ _ _ _ _ _ ?_
      have hL' : ∀ p, (m.set n (poolM p) ++ [.lst (ws.map .str)])[m.length]? = some (.lst (ws.map .str)) := fun p => by simp
      simp [recv_append (hL' _)]
      refine lcGo_list (freshH ws) _ _ (by simp [signs_length]; decide +kernel) (fun x hx => ?_) ?_
      · have : ∃ s, x = .str s := by
          rcases List.mem_cons.mp hx with rfl | hx
          · exact ⟨w, rfl⟩
          · obtain ⟨z, hz, rfl⟩ := List.mem_map.mp hx
            obtain ⟨d, hd, rfl⟩ := mem_signs hz
            exact ⟨_, rfl⟩
        obtain ⟨s, rfl⟩ := this
        simp [lcBody_wp, tgSet, wipeE, nin_ref _ (hL' _), inO_strs, freshH]
      · obtain ⟨s, r, e, hs', hfr⟩ := fresh_some (ws := ws) hw (show a < w.length by omega) (by omega)
        rw [List.nil_append]
        erw [e]
        have e0 : atI (PyData.str s :: r) 0 = some (.str s) := by simp [atI, ixN]
        simp [e0, append_wp _ (hL' _) (show (ws.map PyData.str).length < LINE by simp; unfold LINE; omega)]
        refine ⟨ws ++ [s], p1, ⟨rfl, by simp⟩, hp1.mono (by omega), by simp; omega, ?_, nd_snoc hnd hfr, by obtain ⟨r, hr⟩ := hpre; exact ⟨r ++ [s], by rw [hr]; simp⟩⟩
        intro w' hw'
        rcases List.mem_append.mp hw' with h | h
        · exact hok w' h
        · simp at h; rw [h]; exact hs'
  · rintro ρ m' ⟨o4, o5, o6, o7, o8, o9, o10, ws, p, rfl, rfl, hp, hws, hok, hnd, hpre⟩
    rw [List.length_map, List.length_range, Nat.zero_add] at hp hws
    have hL' : (m.set n (poolM p) ++ [.lst (ws.map .str)])[m.length]? = some (.lst (ws.map .str)) := by simp
    simp
    refine exs_step _ _ _ _ _ _ _ ?_
    have e6 : cut (ws.map PyData.str) (some 6) none = (ws.drop 6).map .str := by rw [show (6 : Int) = ((6 : Nat) : Int) from rfl, cut_from, List.map_drop]
    simp [sl_ref _ _ hL', e6]
    obtain ⟨r, hr⟩ := hpre
    have hdr : ws.drop 6 = r := by rw [hr]; rfl
    have := hq (ws.drop 6) p hp (by simp; omega) (fun w hw => ⟨hok w (List.drop_subset _ _ hw), isName_of (hok w (List.drop_subset _ _ hw)) (fun h6 => by
      rw [hdr] at hw
      rw [hr, List.nodup_append] at hnd
      exact hnd.2.2 w h6 w hw rfl)⟩) (hnd.sublist (List.drop_sublist _ _))
    simpa [List.take_append_of_le_length, List.map_drop] using this
end K04
end Lo
/-! Data that may be shown: its weight, its depth. -/
namespace Lo
open PySem
mutual
def wfB (I : Nat) : PyData → Bool
  | .none => true
  | .bool _ => true
  | .int i => decide (i.natAbs ≤ I)
  | .str x => x.cps.toList.all fun c => decide (c < 16 ^ 8)
  | .list xs => wfBs I xs
  | .tuple xs => wfBs I xs
  | .dict kvs => kvs.isEmpty
def wfBs (I : Nat) : List PyData → Bool
  | [] => true
  | x :: xs => wfB I x && wfBs I xs
end
mutual
theorem wfB_mono {I J : Nat} (h : I ≤ J) : ∀ x : PyData, wfB I x = true → wfB J x = true
  | .none, _ => by simp only [wfB]
  | .bool _, _ => by simp only [wfB]
  | .int i, h1 => by simp only [wfB, decide_eq_true_eq] at h1 ⊢; omega
  | .str x, h1 => by simpa only [wfB] using h1
  | .list xs, h1 => by simp only [wfB] at h1 ⊢; exact wfBs_mono h xs h1
  | .tuple xs, h1 => by simp only [wfB] at h1 ⊢; exact wfBs_mono h xs h1
  | .dict kvs, h1 => by simpa only [wfB] using h1
theorem wfBs_mono {I J : Nat} (h : I ≤ J) : ∀ xs : List PyData, wfBs I xs = true → wfBs J xs = true
  | [], _ => by simp only [wfBs]
  | x :: xs, h1 => by
    simp only [wfBs, Bool.and_eq_true] at h1 ⊢
    exact ⟨wfB_mono h x h1.1, wfBs_mono h xs h1.2⟩
end
theorem wfBs_iff {I : Nat} : ∀ {xs : List PyData}, wfBs I xs = true ↔ ∀ x ∈ xs, wfB I x = true
  | [] => by simp [wfBs]
  | x :: xs => by simp [wfBs, Bool.and_eq_true, wfBs_iff (xs := xs)]
structure Tame (I N D : Nat) (x : PyData) : Prop where
  wf : wfB I x = true
  wt : x.weight ≤ N
  dp : x.depth ≤ D
structure TL (I N D : Nat) (xs : List PyData) : Prop where
  wf : wfBs I xs = true
  wt : PyData.weightAll xs ≤ N
  dp : PyData.depthAll xs ≤ D
theorem Tame.mono {I N D I' N' D' : Nat} {x : PyData} (h : Tame I N D x) (h1 : I ≤ I') (h2 : N ≤ N') (h3 : D ≤ D') : Tame I' N' D' x := ⟨wfB_mono h1 x h.wf, Nat.le_trans h.wt h2, Nat.le_trans h.dp h3⟩
theorem TL.mono {I N D I' N' D' : Nat} {x : List PyData} (h : TL I N D x) (h1 : I ≤ I') (h2 : N ≤ N') (h3 : D ≤ D') : TL I' N' D' x := ⟨wfBs_mono h1 x h.wf, Nat.le_trans h.wt h2, Nat.le_trans h.dp h3⟩
theorem TL.tup {I N D : Nat} {xs : List PyData} (h : TL I N D xs) : Tame I N (D + 1) (.tuple xs) := ⟨by simpa [wfB] using h.wf, by simpa [PyData.weight] using h.wt, by simpa [PyData.depth] using h.dp⟩
theorem TL.lst {I N D : Nat} {xs : List PyData} (h : TL I N D xs) : Tame I N (D + 1) (.list xs) := ⟨by simpa [wfB] using h.wf, by simpa [PyData.weight] using h.wt, by simpa [PyData.depth] using h.dp⟩
theorem Tame.untup {I N D : Nat} {xs : List PyData} (h : Tame I N D (.tuple xs)) : TL I N (D - 1) xs ∧ 1 ≤ D := by
  obtain ⟨h1, h2, h3⟩ := h
  simp only [wfB, PyData.weight, PyData.depth] at h1 h2 h3
  exact ⟨⟨h1, h2, by omega⟩, by omega⟩
theorem wt_append : ∀ xs ys : List PyData, PyData.weightAll (xs ++ ys) = PyData.weightAll xs + PyData.weightAll ys
  | [], ys => by simp [PyData.weightAll]
  | x :: xs, ys => by simp only [List.cons_append, PyData.weightAll, wt_append xs ys]; omega
theorem dp_append : ∀ xs ys : List PyData, PyData.depthAll (xs ++ ys) = max (PyData.depthAll xs) (PyData.depthAll ys)
  | [], ys => by simp [PyData.depthAll]
  | x :: xs, ys => by simp only [List.cons_append, PyData.depthAll, dp_append xs ys]; omega
theorem TL.nil (I N D : Nat) : TL I N D [] := ⟨rfl, by simp [PyData.weightAll], by simp [PyData.depthAll]⟩
theorem TL.append {I N M D : Nat} {xs ys : List PyData} (h : TL I N D xs) (h2 : TL I M D ys) : TL I (N + M) D (xs ++ ys) := by
  refine ⟨wfBs_iff.mpr fun x hx => ?_, by rw [wt_append]; exact Nat.add_le_add h.wt h2.wt, by rw [dp_append]; exact Nat.max_le.mpr ⟨h.dp, h2.dp⟩⟩
  rcases List.mem_append.mp hx with hx | hx
  · exact wfBs_iff.mp h.wf x hx
  · exact wfBs_iff.mp h2.wf x hx
theorem TL.cons {I N M D : Nat} {x : PyData} {ys : List PyData} (h : Tame I N D x) (h2 : TL I M D ys) : TL I (N + 1 + M) D (x :: ys) :=
  ⟨by simp [wfBs, h.wf, h2.wf], by simp only [PyData.weightAll]; have := h.wt; have := h2.wt; omega, by simp only [PyData.depthAll]; exact Nat.max_le.mpr ⟨h.dp, h2.dp⟩⟩
theorem TL.one {I N D : Nat} {x : PyData} (h : Tame I N D x) : TL I (N + 1) D [x] := by simpa using TL.cons h (TL.nil I 0 D)
theorem wt_mem : ∀ {xs : List PyData} {x : PyData}, x ∈ xs → x.weight + 1 ≤ PyData.weightAll xs
  | y :: ys, x, h => by
    simp only [PyData.weightAll]
    rcases List.mem_cons.mp h with rfl | h
    · omega
    · have := wt_mem h; omega
theorem dp_mem : ∀ {xs : List PyData} {x : PyData}, x ∈ xs → x.depth ≤ PyData.depthAll xs
  | y :: ys, x, h => by
    simp only [PyData.depthAll]
    rcases List.mem_cons.mp h with rfl | h
    · omega
    · have := dp_mem h; omega
theorem wt_len : ∀ xs : List PyData, xs.length ≤ PyData.weightAll xs
  | [] => by simp
  | y :: ys => by
    simp only [PyData.weightAll, List.length_cons]
    have := wt_len ys; omega
theorem TL.get {I N D : Nat} {xs : List PyData} (h : TL I N D xs) {x : PyData} (hx : x ∈ xs) : Tame I N D x :=
  ⟨wfBs_iff.mp h.wf x hx, by have := wt_mem hx; have := h.wt; omega, Nat.le_trans (dp_mem hx) h.dp⟩
theorem TL.left {I N D : Nat} {xs ys : List PyData} (h : TL I N D (xs ++ ys)) : TL I N D xs := by
  obtain ⟨h1, h2, h3⟩ := h
  rw [wt_append] at h2; rw [dp_append] at h3
  exact ⟨wfBs_iff.mpr fun x hx => wfBs_iff.mp h1 x (List.mem_append_left _ hx), by omega, by omega⟩
theorem TL.right {I N D : Nat} {xs ys : List PyData} (h : TL I N D (xs ++ ys)) : TL I N D ys := by
  obtain ⟨h1, h2, h3⟩ := h
  rw [wt_append] at h2; rw [dp_append] at h3
  exact ⟨wfBs_iff.mpr fun x hx => wfBs_iff.mp h1 x (List.mem_append_right _ hx), by omega, by omega⟩
theorem TL.take {I N D : Nat} {xs : List PyData} (h : TL I N D xs) (i : Nat) : TL I N D (xs.take i) := TL.left (ys := xs.drop i) (by rw [List.take_append_drop]; exact h)
theorem TL.drop {I N D : Nat} {xs : List PyData} (h : TL I N D xs) (i : Nat) : TL I N D (xs.drop i) := TL.right (xs := xs.take i) (by rw [List.take_append_drop]; exact h)
theorem TL.rev {I N D : Nat} {xs : List PyData} (h : TL I N D xs) : TL I N D xs.reverse := by
  obtain ⟨h1, h2, h3⟩ := h
  have hw : ∀ ys : List PyData, PyData.weightAll ys.reverse = PyData.weightAll ys := fun ys => by
    induction ys with
    | nil => rfl
    | cons y ys ih => rw [List.reverse_cons, wt_append, ih]; simp only [PyData.weightAll]; omega
  have hd : ∀ ys : List PyData, PyData.depthAll ys.reverse = PyData.depthAll ys := fun ys => by
    induction ys with
    | nil => rfl
    | cons y ys ih => rw [List.reverse_cons, dp_append, ih]; simp only [PyData.depthAll]; omega
  exact ⟨wfBs_iff.mpr fun x hx => wfBs_iff.mp h1 x (List.mem_reverse.mp hx), by rw [hw]; exact h2, by rw [hd]; exact h3⟩
theorem Tame.str {s : Str} {N : Nat} (h : okS s) (hn : s.length ≤ N) (I D : Nat) : Tame I N D (.str s) := ⟨by simp only [wfB, List.all_eq_true, decide_eq_true_eq]; exact h, by simpa [PyData.weight, Str.length] using hn, by simp [PyData.depth]⟩
theorem Tame.okS {s : Str} {I N D : Nat} (h : Tame I N D (.str s)) : okS s ∧ s.length ≤ N := ⟨by have := h.wf; simp only [wfB, List.all_eq_true, decide_eq_true_eq] at this; exact this, by simpa [PyData.weight, Str.length] using h.wt⟩
theorem Tame.int {i : Int} {I : Nat} (h : i.natAbs ≤ I) (hI : I < 2 ^ 150) (D : Nat) {N : Nat} (hN : 150 ≤ N) : Tame I N D (.int i) := by
  refine ⟨by simpa [wfB] using h, ?_, by simp [PyData.depth]⟩
  simp only [PyData.weight]
  split
  · omega
  · rename_i h0
    have : i.natAbs.log2 < 150 := (Nat.log2_lt (by simpa using h0)).mpr (by omega)
    omega
/-- it may be shown -/
theorem Tame.show_ok : ∀ {I N D : Nat} {x : PyData}, Tame I N D x → I < 10 ^ 45 → N ≤ 200000 → D ≤ 64 → (x.showable && decide (x.depth ≤ 64) && decide (x.shown.length ≤ LINE)) = true := by
  intro I N D x h hI hN hD
  have h1 : ∀ x : PyData, wfB I x = true → x.showable = true := by
    refine fun x => PyData.rec (motive_1 := fun x => wfB I x = true → x.showable = true) (motive_2 := fun xs => wfBs I xs = true → PyData.showableAll xs = true) (motive_3 := fun kvs => True) (motive_4 := fun p => True) ?_ ?_ ?_ ?_ ?_ ?_ ?_ ?_ ?_ ?_ ?_ ?_ x
    · intro _; simp only [PyData.showable]
    · intro _ _; simp only [PyData.showable]
    · intro i hi
      simp only [wfB, decide_eq_true_eq] at hi
      simp only [PyData.showable, decide_eq_true_eq]
      by_cases h0 : i.natAbs = 0
      · rw [h0]; decide
      · refine (Nat.log2_lt h0).mpr (Nat.lt_of_le_of_lt hi (Nat.lt_of_lt_of_le hI (by decide +kernel)))
    · intro _ _; simp only [PyData.showable]
    · intro xs ih h; simp only [wfB] at h; simp only [PyData.showable]; exact ih h
    · intro xs ih h; simp only [wfB] at h; simp only [PyData.showable]; exact ih h
    · intro kvs _ h; simp only [wfB, List.isEmpty_iff] at h; subst h; simp only [PyData.showable, PyData.showableKv]
    · intro _; simp only [PyData.showableAll]
    · intro x xs h1 h2 h; simp only [wfBs, Bool.and_eq_true] at h; simp only [PyData.showableAll, Bool.and_eq_true]; exact ⟨h1 h.1, h2 h.2⟩
    · trivial
    · intros; trivial
    · intros; trivial
  have h2 : ∀ x : PyData, wfB I x = true → x.leavesShort 60 = true := by
    refine fun x => PyData.rec (motive_1 := fun x => wfB I x = true → x.leavesShort 60 = true) (motive_2 := fun xs => wfBs I xs = true → PyData.leavesShortAll 60 xs = true) (motive_3 := fun kvs => True) (motive_4 := fun p => True) ?_ ?_ ?_ ?_ ?_ ?_ ?_ ?_ ?_ ?_ ?_ ?_ x
    · intro _; simp only [PyData.leavesShort]
    · intro _ _; simp only [PyData.leavesShort]
    · intro i hi
      simp only [wfB, decide_eq_true_eq] at hi
      simp only [PyData.leavesShort, decide_eq_true_eq]
      show (Str.ofString (toString i)).length ≤ 60
      rw [ofString_length]
      have := int_text_length_le10 (a := i) (k := 45) (by decide) (Nat.lt_of_le_of_lt hi hI)
      omega
    · intro s h; simp only [wfB] at h; simp only [PyData.leavesShort]; exact h
    · intro xs ih h; simp only [wfB] at h; simp only [PyData.leavesShort]; exact ih h
    · intro xs ih h; simp only [wfB] at h; simp only [PyData.leavesShort]; exact ih h
    · intro kvs _ h; simp only [wfB, List.isEmpty_iff] at h; subst h; simp only [PyData.leavesShort, PyData.leavesShortKv]
    · intro _; simp only [PyData.leavesShortAll]
    · intro x xs h1 h2 h; simp only [wfBs, Bool.and_eq_true] at h; simp only [PyData.leavesShortAll, Bool.and_eq_true]; exact ⟨h1 h.1, h2 h.2⟩
    · trivial
    · intros; trivial
    · intros; trivial
  have h3 := PyData.shown_le 60 (by decide) x (h2 x h.wf)
  have h4 := h.wt
  have h5 := h.dp
  simp only [Bool.and_eq_true, decide_eq_true_eq]
  refine ⟨⟨h1 x h.wf, by omega⟩, ?_⟩
  unfold LINE
  have : (60 + 2) * x.weight ≤ 62 * 200000 := Nat.mul_le_mul (by decide) (by omega)
  omega
end Lo
namespace Lo
open PySem
theorem tup_new (m : Mem) (xs : List PyData) : biW .tup [.new xs] m = some (.d (.tuple xs)) := rfl
namespace K04
def Ntn (x : PyData) : Prop := ∃ w q, x = .tuple [.str w, .int q] ∧ (okN w ∧ isName (.str w) = true) ∧ 1 ≤ q ∧ q ≤ 2
theorem Ntn.tame {x : PyData} (h : Ntn x) : Tame (10 ^ 39) 160 1 x := by
  obtain ⟨w, q, rfl, hw, h1, h2⟩ := h
  have := TL.cons (Tame.str hw.1.s hw.1.2.1 (10 ^ 39) 0) (TL.one (Tame.int (i := q) (I := 10 ^ 39) (by omega) (by decide +kernel) 0 (Nat.le_refl 150)))
  exact this.tup.mono (Nat.le_refl _) (by omega) (by omega)
def Ntns (xs : List PyData) : Prop := 1 ≤ xs.length ∧ xs.length ≤ 3 ∧ (∀ x ∈ xs, Ntn x) ∧ noTwice [] xs = true
theorem Ntns.tl {xs : List PyData} (h : Ntns xs) : TL (10 ^ 39) 500 1 xs := by
  obtain ⟨h1, h2, h3, _⟩ := h
  match xs with
  | [a] => exact (TL.one (h3 a (by simp)).tame).mono (Nat.le_refl _) (by omega) (by omega)
  | [a, b] => exact (TL.cons (h3 a (by simp)).tame (TL.one (h3 b (by simp)).tame)).mono (Nat.le_refl _) (by omega) (by omega)
  | [a, b, c] => exact (TL.cons (h3 a (by simp)).tame (TL.cons (h3 b (by simp)).tame (TL.one (h3 c (by simp)).tame))).mono (Nat.le_refl _) (by omega) (by omega)
theorem noTwice_of : ∀ (xs : List PyData) (seen : List Str), (seen ++ xs.map nameOf).Nodup → noTwice seen xs = true
  | [], _, _ => rfl
  | x :: xs, seen, h => by
    simp only [List.map_cons] at h
    have h1 : nameOf x ∉ seen := by
      rw [List.nodup_append] at h
      exact fun e => h.2.2 _ e _ (by simp) rfl
    simp only [noTwice, List.contains_eq_mem, h1, decide_false, Bool.not_false, Bool.true_and]
    exact noTwice_of xs _ (by simpa using h)
theorem Ntns.ok {xs : List PyData} (h : Ntns xs) : isNotions (.tuple xs) = true := by
  obtain ⟨h1, h2, h3, h4⟩ := h
  have h5 : xs.all isNotion = true := List.all_eq_true.mpr fun x hx => by
    obtain ⟨w, q, rfl, hw, q1, q2⟩ := h3 x hx
    simp [isNotion, hw.2, isWithin, q1, q2]
  simp only [isNotions, h5, h4, decide_eq_true h1, decide_eq_true h2, Bool.and_self]
theorem notions_wp (k : Nat) {m : Mem} {n : Nat} {p : Pool} (hm : m[n]? = some (poolM p)) {B : Int} (hp : PGood B p) (hB : B + 50 < 10000000) {Q : W → Mem → Prop} {E : Nat → Mem → Prop}
    (hq : ∀ (xs : List PyData) p', PGood (B + 50) p' → Ntns xs → Q (.d (.tuple xs)) (m.set n (poolM p'))) : (callF P (k + 3) i__law_notions [.ref n] m).wp Q E := by
  refine callF_wp P (k + 2) _ _ m (f := f__law_notions) rfl rfl ?_
  have hn : n < m.length := (List.getElem?_eq_some_iff.mp hm).1
  have hl : ∀ p, (m.set n (poolM p))[n]? = some (poolM p) := fun p => by simp [hn]
  unfold f__law_notions b__law_notions
  refine exs_step _ _ _ _ _ _ _ ?_
  simp
  refine take_wp (k + 1) hm hp (by omega) (by decide) (by decide) fun d p1 hp1 hd0 hd1 => ?_
  obtain ⟨a, rfl⟩ : ∃ a : Nat, d = a := ⟨d.toNat, by omega⟩
  simp
  rw [show (1 + (a : Int)) = ((1 + a : Nat) : Int) by omega]
  refine names_wp k (hl _) hp1 (1 + a) (by omega) (by omega) fun ws p2 hp2 hws hok hnd => ?_
  simp
  refine exs_step _ _ _ _ _ _ _ ?_
  simp
  refine lcGo_inv (fun j acc m' => ∃ p, acc.length = j ∧ (∀ x ∈ acc, Ntn x) ∧ acc.map nameOf = ws.take j ∧ m' = m.set n (poolM p) ∧ PGood (B + 1 + 1 + 12 * ((1 + a : Nat) : Int) + j) p) _ 0 [] _ ⟨p2, rfl, by simp, by simp, rfl, by simpa using hp2⟩ ?_ ?_
  · rintro j x acc m' hx ⟨p, hl1, hall, hnm, rfl, hp⟩
    rw [Nat.zero_add] at *
    obtain ⟨hj, rfl⟩ := List.getElem?_eq_some_iff.mp hx
    rw [List.getElem_map]
    have hw := hok (ws[j]'(by simpa using hj)) (List.getElem_mem _)
    have hj' : j < ws.length := by simpa using hj
    have htk : ws.take (j + 1) = ws.take j ++ [ws[j]'(by simpa using hj)] := by rw [List.take_add_one]; simp [hj']
    generalize ws[j]'(by simpa using hj) = w at hw htk
    simp [lcBody_wp, tgSet, wipeE]
    refine take_wp (k + 1) (hl _) hp (by omega) (by decide) (by decide) fun d p3 hp3 hd0 hd1 => ?_
    simp
    have hadd : ∀ y, addL y acc = some (acc ++ [y]) := fun y => by unfold addL; rw [if_pos (by unfold LINE; omega)]
    rw [hadd]
    simp only [OS_some]
    simp only [List.length_map] at hj
    refine ⟨by simp; omega, ?_, by rw [List.map_append, hnm, htk]; rfl, p3, rfl, hp3.mono (by omega)⟩
    intro x hx
    rcases List.mem_append.mp hx with h | h
    · exact hall x h
    · simp at h; subst h
      exact ⟨w, _, rfl, hw, by split <;> omega, by split <;> omega⟩
  · rintro acc m' ⟨p, hl1, hall, hnm, rfl, hp⟩
    simp at hl1 hp
    simp [tup_new]
    rw [List.take_of_length_le (by simp)]
    exact hq acc p (hp.mono (by omega)) ⟨by omega, by omega, hall, noTwice_of acc [] (by simpa [hnm, ← hws] using hnd)⟩
def odds : List PyData := [.none, .bool true, .bool false, .int 0, .int 1, .int 2, .int 3, .int (-1), .int 1000000000000000000000000000000000000000, .str "", .str "a", .str "not", .str "some", .str "abcdefghi", .str "Ab", .str "a b", .tuple [], .tuple [.str "a"],
  .list [.str "a", .int 1], .dict [], .tuple [.str "a", .int 1], .tuple [.tuple [.str "a", .int 1]], .list [.tuple [.str "a", .int 1]], .tuple [.str "a", .bool true], .tuple [.str "not"], .tuple [.int 1, .int 2], .tuple [.tuple []], .str "a1"]
theorem odds_tame : ∀ x ∈ odds, Tame (10 ^ 39) 300 2 x := by
  have h : (odds.all fun x => wfB (10 ^ 39) x && decide (x.weight ≤ 300) && decide (x.depth ≤ 2)) = true := by decide +kernel
  intro x hx
  have := List.all_eq_true.mp h x hx
  simp only [Bool.and_eq_true, decide_eq_true_eq] at this
  exact ⟨this.1.1, this.1.2, this.2⟩
theorem odd_wp (k : Nat) {m : Mem} {n : Nat} {p : Pool} (hm : m[n]? = some (poolM p)) {B : Int} (hp : PGood B p) (hB : B < 10000000) {Q : W → Mem → Prop} {E : Nat → Mem → Prop}
    (hq : ∀ y p', PGood (B + 1) p' → Tame (10 ^ 39) 300 2 y → Q (.d y) (m.set n (poolM p'))) : (callF P (k + 2) i__law_odd [.ref n] m).wp Q E := by
  refine callF_wp P (k + 1) _ _ m (f := f__law_odd) rfl rfl ?_
  have hn : n < m.length := (List.getElem?_eq_some_iff.mp hm).1
  unfold f__law_odd b__law_odd
  refine exs_step _ _ _ _ _ _ _ ?_
  simp
  refine exs_step _ _ _ _ _ _ _ ?_
  simp
  refine ⟨by unfold LINE; omega, ?_⟩
  change RS.wp (exs (P.cs (callF P (k + 1))) _ [some (.ref n), some (.d (.list odds))] m) _ _
  refine exs_step _ _ _ _ _ _ _ ?_
  simp
  refine take_wp k hm hp (by omega) (by decide) (by decide) fun d p1 hp1 hd0 hd1 => ?_
  obtain ⟨y, hy, ey⟩ := atI_in (xs := odds) hd0 hd1
  simp [ey]
  rw [List.take_of_length_le (by simp)]
  exact hq y p1 hp1 (odds_tame y hy)
end K04
end Lo
namespace Lo
open PySem
def tameB (I N D : Nat) (x : PyData) : Bool := wfB I x && decide (x.weight ≤ N) && decide (x.depth ≤ D)
theorem tame_of {I N D : Nat} {x : PyData} (h : tameB I N D x = true) : Tame I N D x := by
  simp only [tameB, Bool.and_eq_true, decide_eq_true_eq] at h
  exact ⟨h.1.1, h.1.2, h.2⟩
theorem tames_of {I N D : Nat} {xs : List PyData} (h : xs.all (tameB I N D) = true) : ∀ x ∈ xs, Tame I N D x := fun x hx => tame_of (List.all_eq_true.mp h x hx)
theorem add_rn {m : Mem} {n : Nat} {ys : List PyData} (b : List PyData) (h : m[n]? = some (.lst ys)) : binW .Add (.ref n) (.new b) m = if ys.length + b.length ≤ LINE then some (.new (ys ++ b)) else none := by
  simp only [binW, listOf, h]
theorem get_end (m : Mem) (c : MO) : (m ++ [c])[m.length]? = some c := by simp
namespace K04
end K04
end Lo
namespace Lo
open PySem
@[simp] theorem lst_t (m : Mem) (xs : List PyData) : biW .lst [.d (.tuple xs)] m = some (.new xs) := id rfl
@[simp] theorem step_t (m : Mem) (xs : List PyData) : stepW (.d (.tuple xs)) none none (some (-1)) m = some (.d (.tuple xs.reverse)) := by simp [stepW]
@[simp] theorem step_s (m : Mem) (x : Str) : stepW (.d (.str x)) none none (some (-1)) m = some (.d (.str ⟨x.cps.toList.reverse.toArray⟩)) := by simp [stepW]
theorem str_i (m : Mem) (i : Int) (h : i.natAbs.log2 < 1920) : biW .str [.d (.int i)] m = some (.d (.str (toString i))) := by simp only [biW, h, if_true]
theorem okS_int (i : Int) : okS (Str.ofString (toString i)) := fun c hc => by
  rw [Str.ofString_eq_toList] at hc
  simp at hc
  obtain ⟨a, _, rfl⟩ := hc
  have : a.val.toNat < 1114112 := by
    have := a.valid
    rcases this with h | ⟨_, h⟩
    · exact Nat.lt_trans h (by decide)
    · exact h
  exact Nat.lt_trans this (by decide)
theorem len_int {i : Int} {k : Nat} (hk : 0 < k) (h : i.natAbs < 10 ^ k) : (Str.ofString (toString i)).length ≤ k + 1 := by
  rw [ofString_length]; exact int_text_length_le10 hk h
theorem log2_small {i : Int} {k : Nat} (h : i.natAbs < 2 ^ k) (hk : k ≤ 1920) (h0 : 0 < k) : i.natAbs.log2 < 1920 := by
  by_cases e : i.natAbs = 0
  · rw [e]; decide
  · exact Nat.lt_of_lt_of_le ((Nat.log2_lt e).mpr h) hk
theorem len_app (a b : Str) : (a ++ b).length = a.length + b.length := by rw [len_toL, toL_append, List.length_append, ← len_toL, ← len_toL]
theorem cutStr_len (a : Str) (x y : Option Int) : (cutStr a x y).length ≤ a.length := by rw [len_toL, len_toL]; simp only [cutStr]; exact cut_len _ _ _
theorem wt_split {xs : List PyData} {i : Nat} (h : i < xs.length) : PyData.weightAll xs = PyData.weightAll (xs.take i) + (xs[i].weight + 1) + PyData.weightAll (xs.drop (i + 1)) := by
  conv => lhs; rw [← List.take_append_drop i xs, List.drop_eq_getElem_cons h]
  rw [wt_append]; simp only [PyData.weightAll]; omega
/-- one part exchanged -/
theorem TL.swap {I N D D' M : Nat} {xs : List PyData} (h : TL I N D xs) {i : Nat} (hi : i < xs.length) {y : PyData} (hy : Tame I M D' y) (hM : M ≤ 2 * xs[i].weight + 400) (hD : D ≤ D') : TL I (2 * N + 400) D' (xs.take i ++ [y] ++ xs.drop (i + 1)) := by
  have h1 := (((h.take i).mono (Nat.le_refl _) (Nat.le_refl _) hD).append (TL.one hy)).append ((h.drop (i + 1)).mono (Nat.le_refl _) (Nat.le_refl _) hD)
  refine ⟨h1.wf, ?_, h1.dp⟩
  have := wt_split hi
  have := h.wt
  have := hy.wt
  rw [wt_append, wt_append]
  simp only [PyData.weightAll]
  omega
theorem cut_from1 {α : Type} (xs : List α) (i : Nat) : cut xs (some ((i : Int) + 1)) none = xs.drop (i + 1) := cut_from xs (i + 1)
theorem cut_to1 {α : Type} (xs : List α) (i : Nat) : cut xs none (some ((i : Int) + 1)) = xs.take (i + 1) := cut_to xs (i + 1)
namespace K04
def bb : List Sm := [.ite (.and [.isi (.v 1) [.str], .cmp .Lt (.v 3) (.c (.int 6))]) [.ret (.ix (.lst [.bin .Add (.v 1) (.c (.str "a")), .sl (.v 1) [.c (.int 1)] [], .step (.v 1) [] [] [.neg (.c (.int 1))], .bin .Add (.v 1) (.c (.str "Z")), .bin .Add (.v 1) (.c (.str " ")), .bin .Add (.c (.str "z")) (.sl (.v 1) [] [.c (.int 7)])]) (.v 3))] [], .ite (.and [.isi (.v 1) [.int], .not (.isi (.v 1) [.bool]), .cmp .Lt (.v 3) (.c (.int 6))]) [.ret (.ix (.lst [.bin .Add (.v 1) (.c (.int 1)), .bin .Sub (.v 1) (.c (.int 1)), .cmp .Eq (.v 1) (.c (.int 1)), .bi .str [.v 1], .bin .Sub (.c (.int 3)) (.v 1), .c (.int 2)]) (.v 3))] [], .ret (.v 5)]
theorem bb_wp (F : Cs) (n : Nat) (x odd : PyData) (dp way a : Int) (o6 o7 : Option W) (m : Mem) (E : Nat → En → Mem → Prop) {I N D : Nat} (hx : Tame I N D x) (hI : 10 ^ 39 ≤ I) (hI2 : I + 3 ≤ 10 ^ 44) (hN : N ≤ 20000) (h0 : 0 ≤ way) (hodd : Tame (10 ^ 39) 300 2 odd) :
    (exs F bb [some (.ref n), some (.d x), some (.d (.int dp)), some (.d (.int way)), some (.d (.int a)), some (.d odd), o6, o7] m).wp (fun f ρ m' => ∃ y, f = .ret (.d y) ∧ m' = m ∧ Tame (I + 3) (2 * N + 400) (max D 2) y) E := by
  have todd : Tame (I + 3) (2 * N + 400) (max D 2) odd := hodd.mono (by omega) (by omega) (by omega)
  unfold bb
  cases x with
  | str s =>
    obtain ⟨hs, hsl⟩ := hx.okS
    simp [w_exs_cons, isiD]
    refine ⟨fun h => ?_, fun h => todd⟩
    have la : (Str.ofString "a").length = 1 := by decide +kernel
    have lZ : (Str.ofString "Z").length = 1 := by decide +kernel
    have lb : (Str.ofString " ").length = 1 := by decide +kernel
    have lz : (Str.ofString "z").length = 1 := by decide +kernel
    have lc := cutStr_len s none (some 7)
    refine ⟨by unfold LINE; omega, by unfold LINE; omega, by unfold LINE; omega, by unfold LINE; omega, ?_⟩
    obtain ⟨y, hy, ey⟩ := atI_in (xs := [PyData.str (s ++ Str.ofString "a"), .str (cutStr s (some 1) none), .str ⟨s.cps.toList.reverse.toArray⟩, .str (s ++ Str.ofString "Z"), .str (s ++ Str.ofString " "), .str (Str.ofString "z" ++ cutStr s none (some 7))]) h0 (by simpa using h)
    simp [ey]
    have ts : ∀ z : Str, okS z → z.length ≤ s.length + 1 → Tame (I + 3) (2 * N + 400) (max D 2) (.str z) := fun z h1 h2 => Tame.str h1 (by omega) _ _
    simp only [List.mem_cons, List.not_mem_nil, or_false] at hy
    rcases hy with rfl | rfl | rfl | rfl | rfl | rfl
    · exact ts _ (okS_append hs (by decide +kernel)) (by rw [len_app]; omega)
    · exact ts _ (okS_cut hs _ _) (by have := cutStr_len s (some 1) none; omega)
    · exact ts _ (fun c hc => hs c (by simpa using hc)) (by simp [Str.length])
    · exact ts _ (okS_append hs (by decide +kernel)) (by rw [len_app]; omega)
    · exact ts _ (okS_append hs (by decide +kernel)) (by rw [len_app]; omega)
    · exact ts _ (okS_append (by decide +kernel) (okS_cut hs _ _)) (by rw [len_app]; omega)
  | int i =>
    have hi : i.natAbs ≤ I := by simpa [wfB] using hx.wf
    have h44 : i.natAbs < 10 ^ 44 := Nat.lt_of_le_of_lt hi (by omega)
    simp [w_exs_cons, isiD]
    refine ⟨fun h => ?_, fun h => todd⟩
    rw [str_i _ _ (log2_small (k := 160) (Nat.lt_trans h44 (by decide +kernel)) (by decide) (by decide))]
    simp
    obtain ⟨y, hy, ey⟩ := atI_in (xs := [PyData.int (i + 1), .int (i - 1), .bool (i == 1), .str (Str.ofString i.repr), .int (3 - i), .int 2]) h0 (by simpa using h)
    have ti : ∀ z : Int, z.natAbs ≤ I + 3 → Tame (I + 3) (2 * N + 400) (max D 2) (.int z) := fun z h1 => Tame.int h1 (Nat.lt_of_le_of_lt hI2 (by decide +kernel)) _ (by omega)
    simp only [List.mem_cons, List.not_mem_nil, or_false] at hy
    simp [ey]
    rcases hy with rfl | rfl | rfl | rfl | rfl | rfl
    · exact ti _ (by omega)
    · exact ti _ (by omega)
    · exact ⟨rfl, by simp [PyData.weight], by simp [PyData.depth]⟩
    · exact Tame.str (okS_int i) (by have := len_int (i := i) (k := 44) (by decide) h44; omega) _ _
    · exact ti _ (by omega)
    · exact ti _ (by omega)
  | _ =>
    simp [w_exs_cons, isiD]
    exact todd
theorem callF_wp2 (P : Pg) (k : Nat) {f : Fn} {i : Nat} {as : List W} (m : Mem) {Q : W → Mem → Prop} {E : Nat → Mem → Prop} (hf : P.fns[i]? = some f) (ha : as.length = f.np) (R : W → Mem → Prop)
    (h : (exs (P.cs (callF P k)) f.body (as.map some ++ List.replicate (f.nl - f.np) none) m).wp (fun fl _ m' => ∃ w, fl = .ret w ∧ R w m') (fun _ _ _ => False)) (h2 : ∀ w m', R w m' → (finish m.length w m').wp Q E) : (callF P (k + 1) i as m).wp Q E := by
  refine callF_wp P k Q E m hf ha (RS.wp_mono h ?_ (fun _ _ _ h => h.elim))
  rintro fl ρ m' ⟨w, rfl, hw⟩
  exact h2 w m' hw
def SpR (m : Mem) (n : Nat) (B : Int) (I N D : Nat) (w : W) (m' : Mem) : Prop := ∃ y p', w = .d y ∧ m' = m.set n (poolM p') ∧ PGood B p' ∧ Tame I N D y
def SpM (m : Mem) (n : Nat) (B : Int) (x : PyData) (dp way : Int) (ρ : En) (m' : Mem) : Prop := ∃ a p, ρ = [some (.ref n), some (.d x), some (.d (.int dp)), some (.d (.int way)), some (.d (.int a)), none, none, none] ∧ m' = m.set n (poolM p) ∧ PGood B p ∧ ∀ xs, x = .tuple xs → xs ≠ [] → 0 ≤ a ∧ a < xs.length
theorem spoilt_wp : ∀ (deep k : Nat) {m : Mem} {n : Nat} {p : Pool} (hm : m[n]? = some (poolM p)) {B : Int} (hp : PGood B p) (hB : B + 3 * (deep + 1 : Nat) + 10 < 10000000) {x : PyData} {I N D : Nat} (hx : Tame I N D x) (hI : 10 ^ 39 ≤ I) (hI2 : I + 3 ≤ 10 ^ 44) (hN : N ≤ 20000) {Q : W → Mem → Prop} {E : Nat → Mem → Prop}
    (hq : ∀ y p', PGood (B + 3 * (deep + 1 : Nat)) p' → Tame (I + 3) (2 * N + 400) (max D (deep + 3)) y → Q (.d y) (m.set n (poolM p'))), (callF P (k + deep + 3) i__law_spoilt [.ref n, .d x, .d (.int deep)] m).wp Q E := by
  intro deep
  induction deep with
  | zero =>
    intro k m n p hm B hp hB x I N D hx hI hI2 hN Q E hq
    refine callF_wp2 P (k + 2) m (f := f__law_spoilt) rfl rfl (SpR m n (B + 3) (I + 3) (2 * N + 400) (max D 3)) ?_ ?_
    · have hn : n < m.length := (List.getElem?_eq_some_iff.mp hm).1
      have hl : ∀ p, (m.set n (poolM p))[n]? = some (poolM p) := fun p => by simp [hn]
      unfold f__law_spoilt b__law_spoilt
      refine exs_step _ _ _ _ _ _ _ ?_
      simp
      refine take_wp (k + 1) hm hp (by omega) (by decide) (by decide) fun way p1 hp1 hw0 hw1 => ?_
      simp
      refine exs_step _ _ _ _ _ _ _ ?_
      simp
      refine exs_mid (fun ρ m' => ∃ a p, ρ = [some (.ref n), some (.d x), some (.d (.int 0)), some (.d (.int way)), some (.d (.int a)), none, none, none] ∧ m' = m.set n (poolM p) ∧ PGood (B + 2) p) ?_ ?_
      · cases x with
        | tuple xs =>
          simp [isiD, exs_one]
          refine ⟨fun h => ?_, fun h => ⟨p1, rfl, hp1.mono (by omega)⟩⟩
          have h1 : 0 < xs.length := by cases xs <;> simp at h ⊢
          have h2 : xs.length ≤ 20000 := Nat.le_trans (wt_len xs) (Nat.le_trans hx.untup.1.wt hN)
          refine take_wp (k + 1) (hl _) hp1 (by omega) (by omega) (by omega) fun a p2 hp2 ha0 ha1 => ?_
          simp
          exact ⟨p2, rfl, hp2.mono (by omega)⟩
        | _ => simp [isiD]; exact ⟨p1, rfl, hp1.mono (by omega)⟩
      rintro ρ m' ⟨a, p2, rfl, rfl, hp2⟩
      refine exs_step _ _ _ _ _ _ _ ?_
      simp
      refine odd_wp k (hl _) hp2 (by omega) fun odd p3 hp3 hodd => ?_
      simp
      refine exs_step _ _ _ _ _ _ _ ?_
      simp
      refine RS.wp_mono (bb_wp _ n x odd 0 way a none none _ (fun _ _ _ => False) hx hI hI2 hN hw0 hodd) ?_ (fun _ _ _ h => h.elim)
      rintro f ρ m' ⟨y, rfl, rfl, hy⟩
      simp
      exact ⟨y, p3, rfl, rfl, hp3.mono (by omega), hy.mono (Nat.le_refl _) (Nat.le_refl _) (by omega)⟩
    · rintro w m' ⟨y, p', rfl, rfl, hp', hy⟩
      simp
      rw [List.take_of_length_le (by simp)]
      exact hq y p' (hp'.mono (by omega)) (hy.mono (Nat.le_refl _) (Nat.le_refl _) (by omega))
  | succ deep ih =>
    intro k m n p hm B hp hB x I N D hx hI hI2 hN Q E hq
    rw [show k + (deep + 1) + 3 = (k + deep + 3) + 1 by omega]
    refine callF_wp2 P (k + deep + 3) m (f := f__law_spoilt) rfl rfl (SpR m n (B + 3 * ((deep : Int) + 1 + 1)) (I + 3) (2 * N + 400) (max D (deep + 1 + 3))) ?_ ?_
    · have hn : n < m.length := (List.getElem?_eq_some_iff.mp hm).1
      have hl : ∀ p, (m.set n (poolM p))[n]? = some (poolM p) := fun p => by simp [hn]
      unfold f__law_spoilt b__law_spoilt
      refine exs_step _ _ _ _ _ _ _ ?_
      simp
      refine take_wp (k + deep + 2) hm hp (by omega) (by decide) (by decide) fun way p1 hp1 hw0 hw1 => ?_
      simp
      refine exs_step _ _ _ _ _ _ _ ?_
      simp
      refine exs_mid (SpM m n (B + 2) x (deep + 1) way) ?_ ?_
      · cases x with
        | tuple xs =>
          simp [isiD, exs_one]
          refine ⟨fun h => ?_, fun h => ⟨0, p1, rfl, rfl, hp1.mono (by omega), fun ys e h' => by cases e; exact absurd h h'⟩⟩
          have h1 : 0 < xs.length := by cases xs <;> simp at h ⊢
          have h2 : xs.length ≤ 20000 := Nat.le_trans (wt_len xs) (Nat.le_trans hx.untup.1.wt hN)
          refine take_wp (k + deep + 2) (hl _) hp1 (by omega) (by omega) (by omega) fun a p2 hp2 ha0 ha1 => ?_
          simp
          exact ⟨a, p2, rfl, rfl, hp2.mono (by omega), fun ys e h' => by cases e; exact ⟨ha0, ha1⟩⟩
        | _ => simp [isiD]; exact ⟨0, p1, rfl, rfl, hp1.mono (by omega), fun ys e => by cases e⟩
      rintro ρ m' ⟨a, p2, rfl, rfl, hp2, ha⟩
      refine exs_step _ _ _ _ _ _ _ ?_
      simp
      refine odd_wp (k + deep + 1) (hl _) hp2 (by omega) fun odd p3 hp3 hodd => ?_
      simp
      have base : (exs (P.cs (callF P (k + deep + 3))) bb [some (.ref n), some (.d x), some (.d (.int (deep + 1))), some (.d (.int way)), some (.d (.int a)), some (.d odd), none, none] (m.set n (poolM p3))).wp (fun f ρ m' => ∃ w, f = .ret w ∧ SpR m n (B + 3 * ((deep : Int) + 1 + 1)) (I + 3) (2 * N + 400) (max D (deep + 1 + 3)) w m') (fun _ _ _ => False) := by
        refine RS.wp_mono (bb_wp _ n x odd (deep + 1) way a none none _ (fun _ _ _ => False) hx hI hI2 hN hw0 hodd) ?_ (fun _ _ _ h => h.elim)
        rintro f ρ m' ⟨y, rfl, rfl, hy⟩
        exact ⟨_, rfl, y, p3, rfl, rfl, hp3.mono (by omega), hy.mono (Nat.le_refl _) (Nat.le_refl _) (by omega)⟩
      refine exs_step _ _ _ _ _ _ _ ?_
      by_cases hxs : ∃ xs, x = .tuple xs ∧ xs ≠ []
      · obtain ⟨xs, rfl, hne⟩ := hxs
        obtain ⟨ha0, ha1⟩ := ha xs rfl hne
        obtain ⟨a, rfl⟩ : ∃ b : Nat, a = b := ⟨a.toNat, by omega⟩
        have ha : a < xs.length := by omega
        have he : xs.isEmpty = false := by cases xs <;> simp at hne ⊢
        obtain ⟨tl, hD⟩ := hx.untup
        simp [isiD, he]
        refine ⟨fun h => by omega, fun _ => ?_⟩
        have hlen : xs.length ≤ 20000 := Nat.le_trans (wt_len xs) (Nat.le_trans tl.wt hN)
        have ea : atI xs (a : Int) = some xs[a] := by rw [atI_nat (by omega) (by simpa using ha)]; simp
        have t6 := tl.wt
        refine exs_step _ _ _ _ _ _ _ ?_
        simp
        refine ⟨fun hw => ?_, fun hw => ?_⟩
        · refine exs_step _ _ _ _ _ _ _ ?_
          simp [ea]
          have hmem : xs[a] ∈ xs := List.getElem_mem _
          have twt := (tl.get hmem).wt
          refine ih k (hl _) hp3 (by omega) (x := xs[a]) (N := xs[a].weight) (D := D - 1) ⟨(tl.get hmem).wf, Nat.le_refl _, (tl.get hmem).dp⟩ hI hI2 (by omega) fun y p4 hp4 hy => ?_
          simp
          refine exs_step _ _ _ _ _ _ _ ?_
          simp [cut_to, cut_from1]
          refine ⟨by unfold LINE; omega, by unfold LINE; omega, ?_⟩
          refine ⟨_, p4, rfl, rfl, hp4.mono (by omega), ?_⟩
          have h1 := TL.swap (tl.mono (by omega : I ≤ I + 3) (Nat.le_refl _) (Nat.le_refl _)) ha hy (Nat.le_refl _) (by omega)
          simp only [List.append_assoc, List.cons_append, List.nil_append] at h1
          exact h1.tup.mono (Nat.le_refl _) (Nat.le_refl _) (by omega)
        · refine exs_step _ _ _ _ _ _ _ ?_
          simp [cut_to, cut_from, cut_from1, cut_to1]
          refine ⟨by unfold LINE; omega, by unfold LINE; omega, ?_⟩
          refine exs_step _ _ _ _ _ _ _ ?_
          simp
          obtain ⟨y, hy, ey⟩ := atI_in (xs := [PyData.tuple (xs.take a ++ xs.drop (a + 1)), .tuple (xs.take (a + 1) ++ xs.drop a), .list xs, .tuple xs.reverse]) (i := way - 6) (by omega) (by simp; omega)
          simp [ey]
          refine ⟨y, p3, rfl, rfl, hp3.mono (by omega), ?_⟩
          simp only [List.mem_cons, List.not_mem_nil, or_false] at hy
          rcases hy with rfl | rfl | rfl | rfl
          · exact ((tl.take a).append (tl.drop (a + 1))).tup.mono (by omega) (by omega) (by omega)
          · exact ((tl.take (a + 1)).append (tl.drop a)).tup.mono (by omega) (by omega) (by omega)
          · exact tl.lst.mono (by omega) (by omega) (by omega)
          · exact tl.rev.tup.mono (by omega) (by omega) (by omega)
      · have hnt : ∀ xs, x = .tuple xs → xs = [] := fun xs e => Classical.byContradiction fun h => hxs ⟨xs, e, h⟩
        cases x with
        | tuple xs =>
          have := hnt xs rfl; subst this
          simp [isiD]
          refine RS.wp_mono base ?_ (fun _ _ _ h => h.elim)
          rintro f ρ m' ⟨w, rfl, h⟩
          simp; exact h
        | _ =>
          simp [isiD]
          refine RS.wp_mono base ?_ (fun _ _ _ h => h.elim)
          rintro f ρ m' ⟨w, rfl, h⟩
          simp; exact h
    · rintro w m' ⟨y, p', rfl, rfl, hp', hy⟩
      simp
      rw [List.take_of_length_le (by simp)]
      exact hq y p' (hp'.mono (by omega)) (hy.mono (Nat.le_refl _) (Nat.le_refl _) (by omega))
end K04
end Lo
/-! Terms: texts and parts. -/
namespace Lo
open PySem
/-! terms' shape, texts, parts -/
def Tm : Nat → PyData → Prop
  | _, .str _ => True
  | d + 1, .tuple (.str _ :: ps) => ∀ p ∈ ps, Tm d p
  | _, _ => False
def textF : Nat → PyData → Str
  | _, .str s => s
  | d + 1, .tuple (.str w :: ps) => Str.join (Str.ofString " ") (w :: ps.map (textF d))
  | _, _ => Str.empty
def partsF : Nat → PyData → List PyData
  | _, .str s => [.str s]
  | d + 1, .tuple (.str w :: ps) => .tuple (.str w :: ps) :: ps.flatMap (partsF d)
  | _, _ => []
theorem Tm.form {d : Nat} {x : PyData} (h : Tm d x) : (∃ s, x = .str s) ∨ ∃ d' w ps, d = d' + 1 ∧ x = .tuple (.str w :: ps) ∧ ∀ p ∈ ps, Tm d' p := by
  unfold Tm at h
  split at h
  · exact .inl ⟨_, rfl⟩
  · exact .inr ⟨_, _, _, rfl, rfl, h⟩
  · exact h.elim
theorem Tm.up : ∀ {d : Nat} {x : PyData}, Tm d x → Tm (d + 1) x
  | d, x, h => by
    rcases h.form with ⟨s, rfl⟩ | ⟨d', w, ps, rfl, rfl, hp⟩
    · unfold Tm; trivial
    · unfold Tm; exact fun p hp' => Tm.up (hp p hp')
theorem Tm.tup {d : Nat} {w : Str} {ps : List PyData} (h : ∀ p ∈ ps, Tm d p) : Tm (d + 1) (.tuple (.str w :: ps)) := by unfold Tm; exact h
theorem join_sp_len (w : Str) : ∀ ss : List Str, (Str.join (Str.ofString " ") (w :: ss)).length = w.length + (ss.map fun s => s.length + 1).sum
  | [] => by simp [Str.join]
  | s :: r => by
    have h := join_sp_len s r
    have e : (Str.ofString " ").length = 1 := by decide +kernel
    simp only [Str.join, len_app, h, List.map_cons, List.sum_cons, e]; omega
theorem textF_len : ∀ (d : Nat) (x : PyData), Tm d x → (textF d x).length ≤ x.weight
  | d, x, h => by
    rcases h.form with ⟨s, rfl⟩ | ⟨d', w, ps, rfl, rfl, hp⟩
    · cases d <;> simp [textF, PyData.weight, Str.length]
    · have hs : ∀ qs : List PyData, (∀ p ∈ qs, Tm d' p) → ((qs.map (textF d')).map fun s => s.length + 1).sum ≤ PyData.weightAll qs := fun qs => by
        induction qs with
        | nil => intro _; simp
        | cons q r ih =>
          intro h
          have h1 := textF_len d' q (h q (by simp))
          have h2 := ih (fun p hp => h p (by simp [hp]))
          simp only [List.map_cons, List.sum_cons, PyData.weightAll]; omega
      have := hs ps hp
      simp only [textF, join_sp_len, PyData.weight, PyData.weightAll]
      have e : w.cps.size = w.length := rfl
      omega
theorem textF_ok : ∀ (d : Nat) (x : PyData), Tm d x → ∀ I, wfB I x = true → okS (textF d x)
  | d, x, h, I, hw => by
    rcases h.form with ⟨s, rfl⟩ | ⟨d', w, ps, rfl, rfl, hp⟩
    · have : okS s := by simp only [wfB, List.all_eq_true, decide_eq_true_eq] at hw; exact hw
      cases d <;> simpa [textF] using this
    · simp only [wfB, wfBs, Bool.and_eq_true] at hw
      have hw1 : okS w := by have := hw.1; simp only [wfB, List.all_eq_true, decide_eq_true_eq] at this; exact this
      have sp : okS (Str.ofString " ") := by decide +kernel
      have hj : ∀ (ss : List Str) (u : Str), okS u → (∀ s ∈ ss, okS s) → okS (Str.join (Str.ofString " ") (u :: ss)) := fun ss => by
        induction ss with
        | nil => intro u hu _; simpa [Str.join] using hu
        | cons s r ih => intro u hu hs; simp only [Str.join]; exact okS_append (okS_append hu sp) (ih s (hs s (by simp)) (fun t ht => hs t (by simp [ht])))
      simp only [textF]
      refine hj _ _ hw1 fun s hs => ?_
      obtain ⟨p, hp', rfl⟩ := List.mem_map.mp hs
      exact textF_ok d' p (hp p hp') I (wfBs_iff.mp hw.2 p hp')
theorem joinLen_le (w : Str) (ss : List Str) : joinLen (Str.ofString " ") (w :: ss) = w.length + (ss.map fun s => s.length + 1).sum + 1 := by
  have e : (Str.ofString " ").length = 1 := by decide +kernel
  have : ∀ ss : List Str, (ss.map fun s => s.length + 1).sum = (ss.map Str.length).sum + ss.length := fun ss => by
    induction ss with
    | nil => rfl
    | cons a r ih => simp only [List.map_cons, List.sum_cons, ih, List.length_cons]; omega
  unfold joinLen
  rw [this ss, e]; simp; omega
theorem join_new2 (z : Str) (w : Str) (ss : List PyData) (us : List Str) (m : Mem) (e : ss = us.map .str) (h : joinLen z (w :: us) ≤ LINE) : mtW .join (.d (.str z)) [.new (.str w :: ss)] m = .ok (.d (.str (Str.join z (w :: us)))) m := by
  subst e
  exact join_new z (w :: us) m h
theorem extend_new {m : Mem} {n : Nat} {ys : List PyData} (zs : List PyData) (h : m[n]? = some (.lst ys)) (hl : ys.length + zs.length ≤ LINE) : mtW .extend (.ref n) [.new zs] m = .ok (.d .none) (m.set n (.lst (ys ++ zs))) := by
  simp only [mtW, listOf, h, if_pos hl]
theorem recv_extend {m : Mem} {n : Nat} {ys : List PyData} (h : m[n]? = some (.lst ys)) : recvOk .extend (.ref n) m = true := by simp only [recvOk, h]
theorem partsF_len : ∀ (d : Nat) (x : PyData), (partsF d x).length ≤ x.weight + 1
  | 0, x => by cases x <;> simp [partsF]
  | d + 1, x => by
    unfold partsF
    split
    · simp
    · rename_i d' w ps e1
      cases e1
      have hs : ∀ qs : List PyData, (qs.flatMap (partsF d)).length ≤ PyData.weightAll qs := fun qs => by
        induction qs with
        | nil => simp
        | cons q r ih =>
          have h1 := partsF_len d q
          simp only [List.flatMap_cons, List.length_append, PyData.weightAll]; omega
      have := hs ps
      simp only [List.length_cons, PyData.weight, PyData.weightAll]; omega
    · simp
theorem flat_len (d : Nat) (qs : List PyData) : (qs.flatMap (partsF d)).length ≤ PyData.weightAll qs := by
  induction qs with
  | nil => simp
  | cons q r ih =>
    have h1 := partsF_len d q
    simp only [List.flatMap_cons, List.length_append, PyData.weightAll]; omega
theorem partsF_tm : ∀ (d : Nat) (x : PyData), Tm d x → ∀ y ∈ partsF d x, Tm d y ∧ y.weight ≤ x.weight
  | d, x, h, y, hy => by
    rcases h.form with ⟨s, rfl⟩ | ⟨d', w, ps, rfl, rfl, hp⟩
    · have : y = .str s := by cases d <;> simpa [partsF] using hy
      subst this
      exact ⟨h, Nat.le_refl _⟩
    · simp only [partsF, List.mem_cons] at hy
      rcases hy with rfl | hy
      · exact ⟨h, Nat.le_refl _⟩
      · obtain ⟨q, hq, hy⟩ := List.mem_flatMap.mp hy
        obtain ⟨h1, h2⟩ := partsF_tm d' q (hp q hq) y hy
        have := wt_mem hq
        refine ⟨?_, by simp only [PyData.weight, PyData.weightAll]; omega⟩
        exact Tm.up h1
namespace K04
theorem text_of_eq : ∀ (d : Nat) (x : PyData), Tm d x → x.weight ≤ 200000 → ∀ (k : Nat) (m : Mem), callF P (k + d + 1) i_text_of [.d x] m = .ok (.d (.str (textF d x))) m := by
  intro d
  induction d with
  | zero =>
    intro x h _ k m
    rcases h.form with ⟨s, rfl⟩ | ⟨d', w, ps, e, _⟩
    · refine R.eq_of_wp (callF_wp P k _ _ m (f := f_text_of) rfl rfl ?_)
      simp [f_text_of, b_text_of, w_exs_cons, isiD, textF]
    · cases e
  | succ d ih =>
    intro x h hw k m
    refine R.eq_of_wp (callF_wp P (k + (d + 1)) _ _ m (f := f_text_of) rfl rfl ?_)
    rcases h.form with ⟨s, rfl⟩ | ⟨d', w, ps, e, rfl, hp⟩
    · simp [f_text_of, b_text_of, w_exs_cons, isiD, textF]
    · cases e
      have hl := textF_len _ _ h
      unfold f_text_of b_text_of
      refine exs_step _ _ _ _ _ _ _ ?_
      simp [isiD]
      refine exs_step _ _ _ _ _ _ _ ?_
      refine star1_wp _ _ _ _ _ _ _ _ (x := .str w) (xs := ps) (m' := m) (by simp only [ev]; rfl) ?_
      simp
      refine exs_step _ _ _ _ _ _ _ ?_
      simp [join_recv]
      have hwl := wt_len ps
      simp only [PyData.weight, PyData.weightAll] at hw
      refine lcGo_map (fun p => .str (textF d p)) _ (by unfold LINE; omega) (fun p hp' => ?_) ?_
      · have := wt_mem hp'
        have e := ih p (hp p hp') (by omega) k m
        simp [lcBody_wp, tgSet, wipeE, show k + (d + 1) = k + d + 1 by omega, e]
      · simp only [textF, join_sp_len] at hl
        simp
        refine ⟨by unfold LINE; omega, ?_⟩
        rw [join_new2 _ w (ps.map fun p => .str (textF d p)) (ps.map (textF d)) m (by simp) (by rw [joinLen_le]; simp only [PyData.weight, PyData.weightAll] at hl; unfold LINE; omega)]
        simp [textF]
theorem law_text_eq : ∀ (d : Nat) (x : PyData), Tm d x → x.weight ≤ 200000 → ∀ (k : Nat) (m : Mem), callF P (k + d + 1) i__law_text [.d x] m = .ok (.d (.str (textF d x))) m := by
  intro d
  induction d with
  | zero =>
    intro x h _ k m
    rcases h.form with ⟨s, rfl⟩ | ⟨d', w, ps, e, _⟩
    · refine R.eq_of_wp (callF_wp P k _ _ m (f := f__law_text) rfl rfl ?_)
      simp [f__law_text, b__law_text, w_exs_cons, isiD, textF]
    · cases e
  | succ d ih =>
    intro x h hw k m
    refine R.eq_of_wp (callF_wp P (k + (d + 1)) _ _ m (f := f__law_text) rfl rfl ?_)
    rcases h.form with ⟨s, rfl⟩ | ⟨d', w, ps, e, rfl, hp⟩
    · simp [f__law_text, b__law_text, w_exs_cons, isiD, textF]
    · cases e
      have hl := textF_len _ _ h
      unfold f__law_text b__law_text
      refine exs_step _ _ _ _ _ _ _ ?_
      simp [isiD]
      refine exs_step _ _ _ _ _ _ _ ?_
      have e0 : atI (PyData.str w :: ps) 0 = some (.str w) := by simp [atI, ixN]
      have e1 : cut (PyData.str w :: ps) (some 1) none = ps := cut_from (PyData.str w :: ps) 1
      simp [join_recv, e0, e1]
      have hwl := wt_len ps
      simp only [PyData.weight, PyData.weightAll] at hw
      refine lcGo_map (fun p => .str (textF d p)) _ (by unfold LINE; omega) (fun p hp' => ?_) ?_
      · have := wt_mem hp'
        have e := ih p (hp p hp') (by omega) k m
        simp [lcBody_wp, tgSet, wipeE, show k + (d + 1) = k + d + 1 by omega, e]
      · simp only [textF, join_sp_len] at hl
        simp
        refine ⟨by unfold LINE; omega, ?_⟩
        rw [join_new2 _ w (ps.map fun p => .str (textF d p)) (ps.map (textF d)) m (by simp) (by rw [joinLen_le]; simp only [PyData.weight, PyData.weightAll] at hl; unfold LINE; omega)]
        simp [textF]
theorem own_terms_str (k : Nat) (s : Str) (m : Mem) : callF P (k + 1) i_own_terms [.d (.str s)] m = .ok (.d (.tuple [])) m := by
  refine R.eq_of_wp (callF_wp P k _ _ m (f := f_own_terms) rfl rfl ?_)
  simp [f_own_terms, b_own_terms, w_exs_cons, isiD]
theorem own_terms_tup (k : Nat) (x : PyData) (ps : List PyData) (m : Mem) : callF P (k + 1) i_own_terms [.d (.tuple (x :: ps))] m = .ok (.d (.tuple ps)) m := by
  refine R.eq_of_wp (callF_wp P k _ _ m (f := f_own_terms) rfl rfl ?_)
  have e1 : cut (x :: ps) (some 1) none = ps := cut_from (x :: ps) 1
  simp [f_own_terms, b_own_terms, w_exs_cons, isiD, e1]
theorem all_parts_eq : ∀ (d : Nat) (x : PyData), Tm d x → x.weight ≤ 200000 → ∀ (k : Nat) (m : Mem), callF P (k + d + 2) i_all_parts [.d x] m = .ok (.new (partsF d x)) m := by
  intro d
  induction d with
  | zero =>
    intro x h _ k m
    rcases h.form with ⟨s, rfl⟩ | ⟨d', w, ps, e, _⟩
    · refine R.eq_of_wp (callF_wp P (k + 1) _ _ m (f := f_all_parts) rfl rfl ?_)
      simp [f_all_parts, b_all_parts, own_terms_str, exs_one, w_exs_cons, forGo]
      rw [fin_own _ _ _ _ _ _ (Nat.le_refl _) (get_end _ _)]
      simp [partsF]
    · cases e
  | succ d ih =>
    intro x h hw k m
    refine R.eq_of_wp (callF_wp P (k + d + 2) _ _ m (f := f_all_parts) rfl rfl ?_)
    rcases h.form with ⟨s, rfl⟩ | ⟨d', w, ps, e, rfl, hp⟩
    · simp [f_all_parts, b_all_parts, own_terms_str, exs_one, w_exs_cons, forGo]
      rw [fin_own _ _ _ _ _ _ (Nat.le_refl _) (get_end _ _)]
      simp [partsF]
    · cases e
      unfold f_all_parts b_all_parts
      refine exs_step _ _ _ _ _ _ _ ?_
      simp
      refine exs_step _ _ _ _ _ _ _ ?_
      simp [own_terms_tup]
      refine forGo_inv (fun j ρ m' => ∃ o2, ρ = [some (.d (.tuple (.str w :: ps))), some (.ref m.length), o2] ∧ m' = m ++ [.lst (.tuple (.str w :: ps) :: (ps.take j).flatMap (partsF d))]) _ 0 _ _ ⟨_, rfl, by simp⟩ ?_ ?_
      · rintro i y ρ m' hy ⟨o2, rfl, rfl⟩
        obtain ⟨hi, rfl⟩ := List.getElem?_eq_some_iff.mp hy
        rw [Nat.zero_add]
        have hmem : ps[i] ∈ ps := List.getElem_mem _
        have hwm := wt_mem hmem
        simp only [PyData.weight, PyData.weightAll] at hw
        have e := ih ps[i] (hp _ hmem) (by omega) k
        have htk : ps.take (i + 1) = ps.take i ++ [ps[i]] := by rw [List.take_add_one]; simp [hi]
        have hfl : ((ps.take i).flatMap (partsF d)).length ≤ PyData.weightAll ps := Nat.le_trans (flat_len d _) (by have := wt_append (ps.take i) (ps.drop i); rw [List.take_append_drop] at this; omega)
        have hpl := partsF_len d ps[i]
        rw [htk]
        generalize ps[i] = y at e hpl hwm
        simp [tgSet, exs_one, recv_extend (get_end _ _), e, extend_new _ (get_end _ _) (show (PyData.tuple (.str w :: ps) :: (ps.take i).flatMap (partsF d)).length + (partsF d y).length ≤ LINE by simp only [List.length_cons]; unfold LINE; omega)]
      · rintro ρ m' ⟨o2, rfl, rfl⟩
        rw [Nat.zero_add, List.take_length]
        simp [exs_one]
        rw [fin_own _ _ _ _ _ _ (Nat.le_refl _) (get_end _ _)]
        simp [partsF]
theorem _law_parts_eq : ∀ (d : Nat) (x : PyData), Tm d x → x.weight ≤ 200000 → ∀ (k : Nat) (m : Mem), callF P (k + d + 2) i__law_parts [.d x] m = .ok (.new (partsF d x)) m := by
  intro d
  induction d with
  | zero =>
    intro x h _ k m
    rcases h.form with ⟨s, rfl⟩ | ⟨d', w, ps, e, _⟩
    · refine R.eq_of_wp (callF_wp P (k + 1) _ _ m (f := f__law_parts) rfl rfl ?_)
      simp [f__law_parts, b__law_parts, w_exs_cons, isiD, partsF]
    · cases e
  | succ d ih =>
    intro x h hw k m
    refine R.eq_of_wp (callF_wp P (k + d + 2) _ _ m (f := f__law_parts) rfl rfl ?_)
    rcases h.form with ⟨s, rfl⟩ | ⟨d', w, ps, e, rfl, hp⟩
    · simp [f__law_parts, b__law_parts, w_exs_cons, isiD, partsF]
    · cases e
      unfold f__law_parts b__law_parts
      refine exs_step _ _ _ _ _ _ _ ?_
      simp [isiD]
      refine exs_step _ _ _ _ _ _ _ ?_
      simp
      refine exs_step _ _ _ _ _ _ _ ?_
      simp [show cut (PyData.str w :: ps) (some 1) none = ps from cut_from (PyData.str w :: ps) 1]
      refine forGo_inv (fun j ρ m' => ∃ o2, ρ = [some (.d (.tuple (.str w :: ps))), some (.ref m.length), o2] ∧ m' = m ++ [.lst (.tuple (.str w :: ps) :: (ps.take j).flatMap (partsF d))]) _ 0 _ _ ⟨_, rfl, by simp⟩ ?_ ?_
      · rintro i y ρ m' hy ⟨o2, rfl, rfl⟩
        obtain ⟨hi, rfl⟩ := List.getElem?_eq_some_iff.mp hy
        rw [Nat.zero_add]
        have hmem : ps[i] ∈ ps := List.getElem_mem _
        have hwm := wt_mem hmem
        simp only [PyData.weight, PyData.weightAll] at hw
        have e := ih ps[i] (hp _ hmem) (by omega) k
        have htk : ps.take (i + 1) = ps.take i ++ [ps[i]] := by rw [List.take_add_one]; simp [hi]
        have hfl : ((ps.take i).flatMap (partsF d)).length ≤ PyData.weightAll ps := Nat.le_trans (flat_len d _) (by have := wt_append (ps.take i) (ps.drop i); rw [List.take_append_drop] at this; omega)
        have hpl := partsF_len d ps[i]
        rw [htk]
        generalize ps[i] = y at e hpl hwm
        simp [tgSet, exs_one, recv_extend (get_end _ _), e, extend_new _ (get_end _ _) (show (PyData.tuple (.str w :: ps) :: (ps.take i).flatMap (partsF d)).length + (partsF d y).length ≤ LINE by simp only [List.length_cons]; unfold LINE; omega)]
      · rintro ρ m' ⟨o2, rfl, rfl⟩
        rw [Nat.zero_add, List.take_length]
        simp [exs_one]
        rw [fin_own _ _ _ _ _ _ (Nat.le_refl _) (get_end _ _)]
        simp [partsF]
end K04
end Lo
/-! Terms by their texts. -/
namespace Lo
open PySem
def keyStr (p : PyData × PyData) : Str := match p.1 with
  | .str s => s
  | _ => Str.empty
def keysS (kvs : List (PyData × PyData)) : List Str := kvs.map keyStr
def dictT (d : Nat) (xs : List PyData) : List (PyData × PyData) := xs.foldl (fun acc t => storeS (textF d t) t acc) []
def byTextsF (d : Nat) (xs : List PyData) : List PyData := (sortBy strLe (keysS (dictT d xs))).map fun k => (lookS k (dictT d xs)).getD .none
theorem storeS_len (k : Str) (v : PyData) (kvs : List (PyData × PyData)) : (storeS k v kvs).length ≤ kvs.length + 1 := by
  unfold storeS; split <;> simp
theorem storeS_keys (k : Str) (v : PyData) (kvs : List (PyData × PyData)) (h : strKeys kvs = true) : strKeys (storeS k v kvs) = true := by
  unfold storeS
  split
  · unfold strKeys at h ⊢
    rw [List.all_map]
    rw [List.all_eq_true] at h ⊢
    intro p hp
    have := h p hp
    have e : ((if isKey k p.1 then (p.1, v) else p) : PyData × PyData).1 = p.1 := by split <;> rfl
    show (match ((if isKey k p.1 then (p.1, v) else p) : PyData × PyData).1 with | .str _ => true | _ => false) = true
    rw [e]; exact this
  · unfold strKeys at h ⊢; rw [List.all_append, h]; rfl
theorem storeS_vals (k : Str) (v : PyData) (kvs : List (PyData × PyData)) : ∀ p ∈ storeS k v kvs, p.2 = v ∨ ∃ q ∈ kvs, q.2 = p.2 := by
  intro p hp
  unfold storeS at hp
  split at hp
  · obtain ⟨q, hq, rfl⟩ := List.mem_map.mp hp
    split
    · exact .inl rfl
    · exact .inr ⟨q, hq, rfl⟩
  · rcases List.mem_append.mp hp with h | h
    · exact .inr ⟨p, h, rfl⟩
    · simp at h; subst h; exact .inl rfl
structure DT (xs : List PyData) (kvs : List (PyData × PyData)) : Prop where
  keys : strKeys kvs = true
  len : kvs.length ≤ xs.length
  vals : ∀ p ∈ kvs, p.2 ∈ xs
theorem dictT_snoc (d : Nat) (xs : List PyData) (t : PyData) : dictT d (xs ++ [t]) = storeS (textF d t) t (dictT d xs) := by
  unfold dictT; rw [List.foldl_append]; rfl
theorem DT.snoc {xs : List PyData} {kvs : List (PyData × PyData)} (h : DT xs kvs) (k : Str) (t : PyData) : DT (xs ++ [t]) (storeS k t kvs) := by
  refine ⟨storeS_keys _ _ _ h.keys, ?_, fun p hp => ?_⟩
  · have := storeS_len k t kvs; have := h.len; simp; omega
  · rcases storeS_vals _ _ _ p hp with e | ⟨q, hq, e⟩
    · simp [e]
    · rw [← e]; exact List.mem_append_left _ (h.vals q hq)
theorem dictT_ok (d : Nat) (xs : List PyData) : DT xs (dictT d xs) := by
  have : ∀ n, DT (xs.take n) (dictT d (xs.take n)) := fun n => by
    induction n with
    | zero => exact ⟨rfl, by simp [dictT], by simp [dictT]⟩
    | succ n ih =>
      by_cases h : n < xs.length
      · rw [List.take_add_one, List.getElem?_eq_getElem h]
        simp only [Option.toList_some]
        rw [dictT_snoc]
        exact ih.snoc _ _
      · rw [List.take_of_length_le (by omega)]
        rw [List.take_of_length_le (by omega)] at ih
        exact ih
  have h := this xs.length
  rwa [List.take_length] at h
theorem keys_map {kvs : List (PyData × PyData)} (h : strKeys kvs = true) : kvs.map (·.1) = (keysS kvs).map .str := by
  unfold keysS
  rw [List.map_map]
  refine List.map_congr_left fun p hp => ?_
  have := List.all_eq_true.mp h p hp
  simp only [Function.comp, keyStr]
  cases hp1 : p.1 <;> simp [hp1] at this ⊢
theorem look_key : ∀ {kvs : List (PyData × PyData)}, strKeys kvs = true → ∀ k ∈ keysS kvs, ∃ v, lookS k kvs = some v ∧ ∃ p ∈ kvs, p.2 = v
  | (a, v) :: r, h, k, hk => by
    simp only [strKeys, List.all_cons, Bool.and_eq_true] at h
    cases a with
    | str x =>
      simp only [lookS]
      by_cases e : x = k
      · rw [if_pos e]; exact ⟨v, rfl, (.str x, v), by simp, rfl⟩
      · rw [if_neg e]
        have hk' : k ∈ keysS r := by
          simp only [keysS, List.map_cons, List.mem_cons, keyStr] at hk
          rcases hk with hk | hk
          · exact absurd hk.symm e
          · exact hk
        obtain ⟨w, h1, p, hp, h2⟩ := look_key h.2 k hk'
        exact ⟨w, h1, p, by simp [hp], h2⟩
    | _ => simp at h
theorem mem_insertBy {α : Type} (le : α → α → Bool) (x : α) : ∀ (ys : List α) (z : α), z ∈ insertBy le x ys → z = x ∨ z ∈ ys
  | [], z, h => by simp [insertBy] at h; exact .inl h
  | y :: r, z, h => by
    unfold insertBy at h
    split at h
    · rcases List.mem_cons.mp h with h | h
      · exact .inl h
      · exact .inr h
    · rcases List.mem_cons.mp h with h | h
      · exact .inr (by simp [h])
      · rcases mem_insertBy le x r z h with h | h
        · exact .inl h
        · exact .inr (by simp [h])
theorem mem_sortBy {α : Type} (le : α → α → Bool) : ∀ (ys : List α) (z : α), z ∈ sortBy le ys → z ∈ ys
  | [], z, h => by simp [sortBy] at h
  | y :: r, z, h => by
    unfold sortBy at h
    rcases mem_insertBy le y _ z h with h | h
    · simp [h]
    · simp [mem_sortBy le r z h]
theorem insertBy_len {α : Type} (le : α → α → Bool) (x : α) : ∀ (ys : List α), (insertBy le x ys).length = ys.length + 1
  | [] => rfl
  | y :: r => by unfold insertBy; split <;> simp [insertBy_len le x r]
theorem sortBy_len {α : Type} (le : α → α → Bool) : ∀ (ys : List α), (sortBy le ys).length = ys.length
  | [] => rfl
  | y :: r => by unfold sortBy; rw [insertBy_len, sortBy_len le r]; rfl
theorem sorted_d {kvs : List (PyData × PyData)} (m : Mem) (h : strKeys kvs = true) (hl : kvs.length < 64) : biW .sorted [.d (.dict kvs)] m = some (.new ((sortBy strLe (keysS kvs)).map .str)) := by
  simp only [biW, sortArg, listR, listOf, dictOf, Option.map_some, keys_map h, strL_map, if_pos (show (keysS kvs).length < 64 by simpa [keysS] using hl)]
theorem sorted_r {kvs : List (PyData × PyData)} {m : Mem} {n : Nat} (hm : m[n]? = some (.dic kvs)) (h : strKeys kvs = true) (hl : kvs.length < 64) : biW .sorted [.ref n] m = some (.new ((sortBy strLe (keysS kvs)).map .str)) := by
  simp only [biW, sortArg, listR, listOf, dictOf, hm, Option.map_some, keys_map h, strL_map, if_pos (show (keysS kvs).length < 64 by simpa [keysS] using hl)]
theorem ix_dict {kvs : List (PyData × PyData)} (m : Mem) (k : Str) (h : strKeys kvs = true) : ixW (.d (.dict kvs)) (.d (.str k)) m = (lookS k kvs).map .d := by
  simp only [ixW, dictR, dictOf, h, if_true]
theorem ix_rdict {kvs : List (PyData × PyData)} {m : Mem} {n : Nat} (k : Str) (hm : m[n]? = some (.dic kvs)) (h : strKeys kvs = true) : ixW (.ref n) (.d (.str k)) m = (lookS k kvs).map .d := by
  simp only [ixW, dictR, dictOf, hm, h, if_true]
theorem put_dict {kvs : List (PyData × PyData)} {m : Mem} {n : Nat} (k : Str) (v : PyData) (hm : m[n]? = some (.dic kvs)) (h : strKeys kvs = true) (hl : kvs.length < LINE) : putW (.ref n) (.d (.str k)) (.d v) m = some (m.set n (.dic (storeS k v kvs))) := by
  simp only [putW, laid, hm, h, hl, decide_true, Bool.and_self, if_true]
def lookH (kvs : List (PyData × PyData)) (x : PyData) : PyData := match x with
  | .str k => (lookS k kvs).getD .none
  | _ => .none
theorem foldM_dict (d : Nat) : ∀ (xs : List PyData) (acc : List (PyData × PyData)), acc.length + xs.length < LINE → xs.foldlM (fun acc t => addD (textF d t, t) acc) acc = some (xs.foldl (fun acc t => storeS (textF d t) t acc) acc)
  | [], acc, _ => rfl
  | x :: xs, acc, h => by
    simp only [List.length_cons] at h
    have : addD (textF d x, x) acc = some (storeS (textF d x) x acc) := by unfold addD; rw [if_pos (by omega)]
    rw [List.foldlM_cons, this]
    have hs := storeS_len (textF d x) x acc
    exact foldM_dict d xs _ (by omega)
theorem byTextsF_mem (d : Nat) (xs : List PyData) : ∀ y ∈ byTextsF d xs, y ∈ xs := fun y hy => by
  unfold byTextsF at hy
  obtain ⟨k, hk, rfl⟩ := List.mem_map.mp hy
  have h := dictT_ok d xs
  obtain ⟨v, h1, p, hp, h2⟩ := look_key h.keys k (mem_sortBy _ _ _ hk)
  rw [h1, Option.getD_some, ← h2]
  exact h.vals p hp
theorem byTextsF_len (d : Nat) (xs : List PyData) : (byTextsF d xs).length ≤ xs.length := by
  unfold byTextsF
  rw [List.length_map, sortBy_len]
  unfold keysS
  rw [List.length_map]
  exact (dictT_ok d xs).len
namespace K04
theorem by_texts_eq (k d : Nat) (xs : List PyData) (m : Mem) (h : ∀ x ∈ xs, Tm d x ∧ x.weight ≤ 200000) (hl : xs.length < 64) : callF P (k + d + 2) i_by_texts [.d (.list xs)] m = .ok (.d (.tuple (byTextsF d xs))) m := by
  refine R.eq_of_wp (callF_wp P (k + d + 1) _ _ m (f := f_by_texts) rfl rfl ?_)
  unfold f_by_texts b_by_texts
  have hd := dictT_ok d xs
  have hdl := hd.len
  refine exs_step _ _ _ _ _ _ _ ?_
  simp
  refine lcGo_pure (g := fun acc t => addD (textF d t, t) acc) xs [] (fun x hx acc => ?_) (fun r hr => ?_) ⟨_, foldM_dict d xs [] (by unfold LINE; simp; omega)⟩
  · simp [dcBody_wp, tgSet, wipeE, text_of_eq d x (h x hx).1 (h x hx).2]
  · rw [foldM_dict d xs [] (by unfold LINE; simp; omega)] at hr
    cases hr
    rw [show xs.foldl (fun acc t => storeS (textF d t) t acc) [] = dictT d xs from rfl]
    refine exs_step _ _ _ _ _ _ _ ?_
    simp [sorted_d _ hd.keys (show (dictT d xs).length < 64 by omega)]
    refine lcGo_map (lookH (dictT d xs)) _ (by simp [sortBy_len, keysS]; unfold LINE; omega) (fun x hx => ?_) ?_
    · obtain ⟨s, hs, rfl⟩ := List.mem_map.mp hx
      obtain ⟨v, h1, _⟩ := look_key hd.keys s (mem_sortBy _ _ _ hs)
      simp [lcBody_wp, tgSet, wipeE, ix_dict _ _ hd.keys, h1, lookH]
    · simp [tup_new, byTextsF, lookH]
end K04
end Lo
/-! Terms' places. -/
namespace Lo
open PySem
@[simp] theorem nq_not_both : (Str.ofString "not" = Str.ofString "both") = False := eq_false (by decide +kernel)
@[simp] theorem nq_not_either : (Str.ofString "not" = Str.ofString "either") = False := eq_false (by decide +kernel)
@[simp] theorem nq_not_turned : (Str.ofString "not" = Str.ofString "turned") = False := eq_false (by decide +kernel)
@[simp] theorem nq_not_chain : (Str.ofString "not" = Str.ofString "chain") = False := eq_false (by decide +kernel)
@[simp] theorem nq_not_some : (Str.ofString "not" = Str.ofString "some") = False := eq_false (by decide +kernel)
@[simp] theorem nq_both_not : (Str.ofString "both" = Str.ofString "not") = False := eq_false (by decide +kernel)
@[simp] theorem nq_both_either : (Str.ofString "both" = Str.ofString "either") = False := eq_false (by decide +kernel)
@[simp] theorem nq_both_turned : (Str.ofString "both" = Str.ofString "turned") = False := eq_false (by decide +kernel)
@[simp] theorem nq_both_chain : (Str.ofString "both" = Str.ofString "chain") = False := eq_false (by decide +kernel)
@[simp] theorem nq_both_some : (Str.ofString "both" = Str.ofString "some") = False := eq_false (by decide +kernel)
@[simp] theorem nq_either_not : (Str.ofString "either" = Str.ofString "not") = False := eq_false (by decide +kernel)
@[simp] theorem nq_either_both : (Str.ofString "either" = Str.ofString "both") = False := eq_false (by decide +kernel)
@[simp] theorem nq_either_turned : (Str.ofString "either" = Str.ofString "turned") = False := eq_false (by decide +kernel)
@[simp] theorem nq_either_chain : (Str.ofString "either" = Str.ofString "chain") = False := eq_false (by decide +kernel)
@[simp] theorem nq_either_some : (Str.ofString "either" = Str.ofString "some") = False := eq_false (by decide +kernel)
@[simp] theorem nq_turned_not : (Str.ofString "turned" = Str.ofString "not") = False := eq_false (by decide +kernel)
@[simp] theorem nq_turned_both : (Str.ofString "turned" = Str.ofString "both") = False := eq_false (by decide +kernel)
@[simp] theorem nq_turned_either : (Str.ofString "turned" = Str.ofString "either") = False := eq_false (by decide +kernel)
@[simp] theorem nq_turned_chain : (Str.ofString "turned" = Str.ofString "chain") = False := eq_false (by decide +kernel)
@[simp] theorem nq_turned_some : (Str.ofString "turned" = Str.ofString "some") = False := eq_false (by decide +kernel)
@[simp] theorem nq_chain_not : (Str.ofString "chain" = Str.ofString "not") = False := eq_false (by decide +kernel)
@[simp] theorem nq_chain_both : (Str.ofString "chain" = Str.ofString "both") = False := eq_false (by decide +kernel)
@[simp] theorem nq_chain_either : (Str.ofString "chain" = Str.ofString "either") = False := eq_false (by decide +kernel)
@[simp] theorem nq_chain_turned : (Str.ofString "chain" = Str.ofString "turned") = False := eq_false (by decide +kernel)
@[simp] theorem nq_chain_some : (Str.ofString "chain" = Str.ofString "some") = False := eq_false (by decide +kernel)
@[simp] theorem nq_some_not : (Str.ofString "some" = Str.ofString "not") = False := eq_false (by decide +kernel)
@[simp] theorem nq_some_both : (Str.ofString "some" = Str.ofString "both") = False := eq_false (by decide +kernel)
@[simp] theorem nq_some_either : (Str.ofString "some" = Str.ofString "either") = False := eq_false (by decide +kernel)
@[simp] theorem nq_some_turned : (Str.ofString "some" = Str.ofString "turned") = False := eq_false (by decide +kernel)
@[simp] theorem nq_some_chain : (Str.ofString "some" = Str.ofString "chain") = False := eq_false (by decide +kernel)
theorem inO_ints (i : Int) (ys : List Int) : inO (.int i) (ys.map .int) = some (ys.contains i) := by
  unfold inO
  have h1 : (cmpOk (.int i) && (ys.map PyData.int).all cmpOk) = true := by
    have : ∀ z : Int, cmpOk (.int z) = true := fun z => by simp [cmpOk, noDict, PyData.depth]
    simp [this]
  rw [if_pos h1]
  congr 1
  induction ys with
  | nil => rfl
  | cons y ys ih =>
    simp only [List.map_cons, List.any_cons, List.contains_cons]
    rw [ih (by simp [cmpOk, noDict, PyData.depth])]
    congr 1
    simp only [PyData.eqv]
    exact Bool.eq_iff_iff.mpr ⟨fun h => by rw [eq_of_beq h]; simp, fun h => by rw [eq_of_beq h]; simp⟩
theorem ints_ok (ns : List Int) : cmpOk (.list (ns.map .int)) = true := by
  have h1 : noDicts (ns.map .int) = true := by
    induction ns with
    | nil => rfl
    | cons n r ih => simp [noDicts, noDict, ih]
  have h2 : PyData.depthAll (ns.map .int) = 0 := by
    induction ns with
    | nil => rfl
    | cons n r ih => simp [PyData.depthAll, PyData.depth, ih (by simpa [noDicts, noDict] using h1)]
  simp [cmpOk, noDict, h1, PyData.depth, h2]
theorem eqv_ints : ∀ ns ms : List Int, PyData.eqvAll (ns.map .int) (ms.map .int) = (ns == ms)
  | [], [] => rfl
  | [], _ :: _ => rfl
  | _ :: _, [] => rfl
  | n :: r, k :: t => by simp only [List.map_cons, PyData.eqvAll, PyData.eqv, eqv_ints r t]; rfl
theorem eqO_ints (ns ms : List Int) : eqO (.list (ns.map .int)) (.list (ms.map .int)) = some (ns == ms) := by
  unfold eqO
  simp only [ints_ok, Bool.and_self, if_true, PyData.eqv, eqv_ints]
theorem eq_ln (ns ms : List Int) (m : Mem) : cmpW .Eq (.d (.list (ns.map .int))) (.new (ms.map .int)) m = some (ns == ms) := eqO_ints ns ms
theorem eq_l2 (ns : List Int) (m : Mem) : cmpW .Eq (.d (.list (ns.map .int))) (.new [.int 2]) m = some (ns == [2]) := eqO_ints ns [2]
theorem eq_l22 (ns : List Int) (m : Mem) : cmpW .Eq (.d (.list (ns.map .int))) (.new [.int 2, .int 2]) m = some (ns == [2, 2]) := eqO_ints ns [2, 2]
theorem in_pairs (ns : List Int) : inO (.list (ns.map .int)) [.list [.int 1, .int 1], .list [.int 2, .int 2]] = some (ns == [1, 1] || ns == [2, 2]) := by
  unfold inO
  have h1 : cmpOk (.list [.int 1, .int 1]) = true := ints_ok [1, 1]
  have h2 : cmpOk (.list [.int 2, .int 2]) = true := ints_ok [2, 2]
  rw [if_pos (by simp [ints_ok, h1, h2])]
  have e1 := eqv_ints [1, 1] ns
  have e2 := eqv_ints [2, 2] ns
  simp only [List.map_cons, List.map_nil] at e1 e2
  simp only [List.any_cons, List.any_nil, PyData.eqv, e1, e2, Bool.or_false]
  congr 2 <;> exact Bool.eq_iff_iff.mpr ⟨fun h => by rw [eq_of_beq h]; simp, fun h => by rw [eq_of_beq h]; simp⟩
def plcS (D : List (PyData × PyData)) (s : Str) : Int := match lookS s D with
  | some (.int p) => p
  | _ => 0
def lawRule (w : Str) (ns : List Int) : Int :=
  if 0 ∈ ns then 0
  else if w = "turned" ∨ w = "some" then (if ns = [2] then (if w = "some" then 1 else 2) else 0)
  else if w = "chain" then (if ns = [2, 2] then 2 else 0)
  else if w = "not" then (if ns.length = 1 then ns.headD 0 else 0)
  else if (w = "both" ∨ w = "either") ∧ (ns = [1, 1] ∨ ns = [2, 2]) then ns.headD 0 else 0
def plc (D : List (PyData × PyData)) : Nat → PyData → Int
  | _, .str s => plcS D s
  | l + 1, .tuple (.str w :: own) => lawRule w (own.map (plc D l))
  | _, _ => 0
structure DOk (D : List (PyData × PyData)) : Prop where
  keys : strKeys D = true
  vals : ∀ s v, lookS s D = some v → v = .int 1 ∨ v = .int 2
theorem rule_range (w : Str) (ns : List Int) (h : ∀ n ∈ ns, n = 0 ∨ n = 1 ∨ n = 2) : lawRule w ns = 0 ∨ lawRule w ns = 1 ∨ lawRule w ns = 2 := by
  have hh : ns.headD 0 = 0 ∨ ns.headD 0 = 1 ∨ ns.headD 0 = 2 := by
    cases ns with
    | nil => simp
    | cons n r => simpa using h n (by simp)
  unfold lawRule
  repeat' split
  all_goals simp_all
theorem plc_range {D : List (PyData × PyData)} (hD : DOk D) : ∀ (l : Nat) (x : PyData), plc D l x = 0 ∨ plc D l x = 1 ∨ plc D l x = 2
  | l, x => by
    unfold plc
    split
    · unfold plcS
      split
      · rename_i h
        rcases hD.vals _ _ h with e | e <;> cases e <;> simp
      · simp
    · refine rule_range _ _ fun n hn => ?_
      obtain ⟨y, _, rfl⟩ := List.mem_map.mp hn
      exact plc_range hD _ y
    · simp
theorem plc_tm {D : List (PyData × PyData)} (hD : DOk D) : ∀ (l : Nat) (x : PyData), plc D l x ≠ 0 → Tm l x ∧ (partsF l x).length + 1 ≤ 2 ^ (l + 1)
  | l, x, h => by
    unfold plc at h
    split at h
    · have e : ∀ (l : Nat) (s : Str), Tm l (.str s) ∧ (partsF l (.str s)).length + 1 ≤ 2 ^ (l + 1) := fun l s => by
        refine ⟨by cases l <;> simp [Tm], ?_⟩
        have e1 : (partsF l (.str s)).length = 1 := by cases l <;> rfl
        have e2 : 2 ^ (l + 1) = 2 * 2 ^ l := by rw [Nat.pow_succ]; omega
        have e3 : 1 ≤ 2 ^ l := Nat.one_le_two_pow
        omega
      exact e _ _
    · rename_i l w own
      have h0 : ¬ (0 ∈ own.map (plc D l)) := fun h0 => h (by unfold lawRule; rw [if_pos h0])
      have h2 : own.length ≤ 2 := by
        refine Classical.byContradiction fun h2 => h ?_
        have e : (own.map (plc D l)).length = own.length := by simp
        generalize own.map (plc D l) = ns at e
        unfold lawRule
        have n1 : ns ≠ [2] := fun e' => by rw [e'] at e; simp at e; omega
        have n2 : ns ≠ [2, 2] := fun e' => by rw [e'] at e; simp at e; omega
        have n3 : ns ≠ [1, 1] := fun e' => by rw [e'] at e; simp at e; omega
        have n4 : ns.length ≠ 1 := by omega
        simp [n1, n2, n3, n4]
      have hall : ∀ p ∈ own, Tm l p ∧ (partsF l p).length + 1 ≤ 2 ^ (l + 1) := fun p hp => plc_tm hD l p fun e => h0 (List.mem_map.mpr ⟨p, hp, e⟩)
      refine ⟨Tm.tup fun p hp => (hall p hp).1, ?_⟩
      have e2 : 2 ^ (l + 1 + 1) = 2 * 2 ^ (l + 1) := by rw [Nat.pow_succ]; omega
      have e1 : 1 ≤ 2 ^ (l + 1) := Nat.one_le_two_pow
      simp only [partsF]
      match own, h2, hall with
      | [], _, _ => simp; omega
      | [a], _, hall => have := (hall a (by simp)).2; simp; omega
      | [a, b], _, hall => have := (hall a (by simp)).2; have := (hall b (by simp)).2; simp; omega
    · exact absurd rfl h
def optI (p : Int) : PyData := if p = 0 then .none else .int p
theorem get_newd {D : List (PyData × PyData)} (m : Mem) (s : Str) (x : PyData) (h : strKeys D = true) : mtW .get (.newd D) [.d (.str s), .d x] m = .ok (.d ((lookS s D).getD x)) m := by
  simp only [mtW, dictR, dictOf, h, if_true]
theorem get_d {D : List (PyData × PyData)} (m : Mem) (s : Str) (h : strKeys D = true) : mtW .get (.d (.dict D)) [.d (.str s)] m = .ok (.d ((lookS s D).getD .none)) m := by
  simp only [mtW, dictR, dictOf, h, if_true]
theorem get_rod {D : List (PyData × PyData)} (m : Mem) (s : Str) (h : strKeys D = true) : mtW .get (.rod D) [.d (.str s)] m = .ok (.d ((lookS s D).getD .none)) m := by
  simp only [mtW, dictR, h, if_true]
theorem recv_newd (D : List (PyData × PyData)) (m : Mem) : recvOk .get (.newd D) m = true := rfl
theorem recv_dict (D : List (PyData × PyData)) (m : Mem) : recvOk .get (.d (.dict D)) m = true := rfl
theorem recv_rod (D : List (PyData × PyData)) (m : Mem) : recvOk .get (.rod D) m = true := rfl
namespace K04
/-- the notions' dict -/
structure NtD (xs : List PyData) (D : List (PyData × PyData)) : Prop where
  ok : DOk D
  dct : ∀ m, biW .dct [.d (.tuple xs)] m = some (.newd D)
theorem law_places_eq {xs : List PyData} {D : List (PyData × PyData)} (hD : NtD xs D) : ∀ (l : Nat) (x : PyData), x.weight ≤ 200000 → ∀ (k : Nat) (m : Mem), callF P (k + l + 1) i__law_places [.d (.tuple xs), .d x, .d (.int l)] m = .ok (.d (.int (plc D l x))) m := by
  intro l
  induction l with
  | zero =>
    intro x hw k m
    refine R.eq_of_wp (callF_wp P k _ _ m (f := f__law_places) rfl rfl ?_)
    unfold f__law_places b__law_places
    refine exs_step _ _ _ _ _ _ _ ?_
    cases x with
    | str s =>
      simp [isiD, hD.dct, recv_newd, get_newd _ _ _ hD.ok.keys, exs_one, plc, plcS]
      cases h : lookS s D with
      | none => simp
      | some v => rcases hD.ok.vals _ _ h with rfl | rfl <;> simp
    | _ =>
      simp [isiD]
      refine exs_step _ _ _ _ _ _ _ ?_
      simp [isiD, exs_one, plc]
  | succ l ih =>
    intro x hw k m
    refine R.eq_of_wp (callF_wp P (k + (l + 1)) _ _ m (f := f__law_places) rfl rfl ?_)
    unfold f__law_places b__law_places
    refine exs_step _ _ _ _ _ _ _ ?_
    cases x with
    | str s =>
      simp [isiD, hD.dct, recv_newd, get_newd _ _ _ hD.ok.keys, exs_one, plc, plcS]
      cases h : lookS s D with
      | none => simp
      | some v => rcases hD.ok.vals _ _ h with rfl | rfl <;> simp
    | tuple ps =>
      simp [isiD]
      refine exs_step _ _ _ _ _ _ _ ?_
      cases ps with
      | nil =>
        simp [isiD, plc, exs_one]
      | cons w own =>
        have e0 : atI (w :: own) 0 = some w := by simp [atI, ixN]
        have e1 : cut (w :: own) (some 1) none = own := cut_from (w :: own) 1
        have hwl := wt_len own
        simp only [PyData.weight, PyData.weightAll] at hw
        cases w with
        | str w =>
          simp [isiD, e0]
          refine ⟨fun h => by omega, fun _ => ?_⟩
          refine exs_step _ _ _ _ _ _ _ ?_
          simp [e0, e1]
          refine lcGo_map (fun p => .int (plc D l p)) _ (by unfold LINE; omega) (fun p hp => ?_) ?_
          · have := wt_mem hp
            have e := ih p (by omega) k m
            simp [lcBody_wp, tgSet, wipeE, show k + (l + 1) = k + l + 1 by omega, e]
          · have hns : (own.map fun p => PyData.int (plc D l p)) = (own.map (plc D l)).map .int := by simp
            rw [hns]
            have hr : ∀ n ∈ own.map (plc D l), n = 0 ∨ n = 1 ∨ n = 2 := fun n hn => by
              obtain ⟨y, _, rfl⟩ := List.mem_map.mp hn
              exact plc_range hD.ok l y
            simp only [plc]
            generalize own.map (plc D l) = ns at hr
            simp [setMany]
            refine exs_step _ _ _ _ _ _ _ ?_
            simp [inO_ints, exs_one]
            by_cases h0 : 0 ∈ ns
            · simp [h0, lawRule]
            · simp [h0]
              refine exs_step _ _ _ _ _ _ _ ?_
              simp [exs_one]
              rw [show ([PyData.str "turned", .str "some"] : List PyData) = ([Str.ofString "turned", Str.ofString "some"] : List Str).map .str from rfl, inO_strs]
              simp [eq_l2]
              refine ⟨fun hw' => ⟨fun h2 => ?_, fun h2 => ?_⟩, fun hw1 hw2 => ?_⟩
              · have ha : atI [PyData.int 2, PyData.int 1] (if w = Str.ofString "some" then 1 else 0) = some (if w = Str.ofString "some" then .int 1 else .int 2) := by split <;> rfl
                rw [ha]
                subst h2
                simp [lawRule, hw']
                split <;> simp
              · simp [lawRule, h0, hw', h2]
              · refine exs_step _ _ _ _ _ _ _ ?_
                simp [exs_one, eq_l22]
                refine ⟨fun hw3 => ⟨fun h2 => ?_, fun h2 => ?_⟩, fun hw3 => ?_⟩
                · subst h2; simp [lawRule, hw3]
                · subst hw3; simp [lawRule, h0, h2]
                · refine exs_step _ _ _ _ _ _ _ ?_
                  simp [exs_one]
                  refine ⟨fun hw4 => ⟨fun h2 => ?_, fun h2 => ?_⟩, fun hw4 => ?_⟩
                  · subst hw4
                    match ns, h2 with
                    | [n], _ =>
                      have e1 : atI [PyData.int n] 0 = some (.int n) := rfl
                      simp [e1, lawRule]
                      simp at h0
                      omega
                  · subst hw4
                    have h2' : ns.length ≠ 1 := by omega
                    simp [lawRule, h0, h2']
                  · rw [show ([PyData.str "both", .str "either"] : List PyData) = ([Str.ofString "both", Str.ofString "either"] : List Str).map .str from rfl, inO_strs]
                    simp
                    refine ⟨fun hw5 => ?_, fun hw5 hw6 => ?_⟩
                    · rw [in_pairs]
                      simp
                      refine ⟨fun h2 => ?_, fun h2 h3 => ?_⟩
                      · rcases h2 with rfl | rfl <;> simp [atI, ixN, lawRule, hw1, hw2, hw3, hw4, hw5]
                      · simp [lawRule, h0, hw1, hw2, hw3, hw4, h2, h3]
                    · simp [lawRule, h0, hw1, hw2, hw3, hw4, hw5, hw6]
        | _ => simp [isiD, e0, exs_one, plc]
    | _ =>
      simp [isiD]
      refine exs_step _ _ _ _ _ _ _ ?_
      simp [isiD, exs_one, plc]
end K04
end Lo
/-! The program's terms. -/
namespace Lo
open PySem
theorem minl_d (n : Int) (r : List Int) (m : Mem) : biW .minl [.d (.list ((n :: r).map .int))] m = some (.d (.int (minOf n r))) := by
  have h := intL_map (n :: r)
  show (match (listOf m (.d (.list ((n :: r).map .int)))).bind intL with | some (a :: r) => some (W.d (.int (minOf a r))) | _ => none) = _
  simp only [listOf, Option.bind_some, h]
theorem atI_last {α : Type} {xs : List α} (h : xs ≠ []) : atI xs (-1) = some (xs.getLast h) := by
  have hl : 0 < xs.length := List.length_pos_iff.mpr h
  unfold atI ixN
  rw [if_neg (by decide), if_pos (by omega), show (-1 + (xs.length : Int)).toNat = xs.length - 1 by omega]
  simp [List.getLast_eq_getElem]
@[simp] theorem ne_ni (m : Mem) (j : Int) : cmpW .NotEq (.d .none) (.d (.int j)) m = some true := by simp [cmpW, dataOf, eqO, cmpOk, noDict, PyData.depth, PyData.eqv]
def madeF (w : Str) (ns : List Int) : PyData := match ns with
  | [] => .none
  | n :: r => if w = "turned" ∨ w = "chain" ∨ w = "some" then (if minOf n r < 2 then .none else if w = "some" then .int 1 else .int 2) else if n = (n :: r).getLast (by simp) then .int n else .none
theorem in_none (ns : List Int) : inO .none (ns.map optI) = some (decide (0 ∈ ns)) := by
  unfold inO
  have ho : ∀ n, optI n = .none ∨ optI n = .int n := fun n => by unfold optI; split <;> simp
  have h1 : (cmpOk .none && (ns.map optI).all cmpOk) = true := by
    simp only [Bool.and_eq_true, List.all_eq_true]
    refine ⟨by simp [cmpOk, noDict, PyData.depth], fun x hx => ?_⟩
    obtain ⟨n, _, rfl⟩ := List.mem_map.mp hx
    rcases ho n with e | e <;> rw [e] <;> simp [cmpOk, noDict, PyData.depth]
  rw [if_pos h1]
  congr 1
  have he : ∀ n : Int, PyData.eqv (optI n) .none = decide (n = 0) := fun n => by
    unfold optI
    by_cases h : n = 0 <;> simp [h, PyData.eqv]
  induction ns with
  | nil => rfl
  | cons n r ih =>
    simp only [List.map_cons, List.any_cons, he]
    rw [ih (by simp at h1 ⊢; exact ⟨h1.1, h1.2.2⟩)]
    by_cases h : n = 0 <;> simp [h]
    exact fun e => absurd e.symm h
namespace K04
theorem made_places_eq (k : Nat) (w : Str) (n : Int) (r : List Int) (m : Mem) : callF P (k + 1) i_made_places [.d (.str w), .d (.list ((n :: r).map .int))] m = .ok (.d (madeF w (n :: r))) m := by
  refine R.eq_of_wp (callF_wp P k _ _ m (f := f_made_places) rfl rfl ?_)
  unfold f_made_places b_made_places
  have h0 : atI ((n :: r).map PyData.int) 0 = some (.int n) := by simp [atI, ixN]
  have hl : atI ((n :: r).map PyData.int) (-1) = some (.int ((n :: r).getLast (by simp))) := by rw [atI_last (by simp), List.getLast_map]
  refine exs_step _ _ _ _ _ _ _ ?_
  have hin : cmpW .In (.d (.str w)) (.d k_OF_TWO) m = some (([Str.ofString "turned", Str.ofString "chain", Str.ofString "some"] : List Str).contains w) := by
    unfold k_OF_TWO
    rw [in_tup]; exact inO_strs w [Str.ofString "turned", Str.ofString "chain", Str.ofString "some"]
  have hm := minl_d n r m
  generalize hL : (n :: r).map PyData.int = L at h0 hl hm
  simp
  rw [hin]
  simp
  refine ⟨fun hw => ?_, fun h1 h2 h3 => ?_⟩
  · refine exs_step _ _ _ _ _ _ _ ?_
    simp [hm, exs_one]
    refine ⟨fun hmin => ?_, fun hmin => ?_⟩
    · simp [madeF, hw, hmin]
    · have : ¬ minOf n r < 2 := by omega
      refine ⟨fun e => ?_, fun e => ?_⟩
      · subst e; simp [madeF, this]
      · have hw' : w = Str.ofString "turned" ∨ w = Str.ofString "chain" := by
          rcases hw with h | h | h
          · exact .inl h
          · exact .inr h
          · exact absurd h e
        simp [madeF, hw', this, e]
  · simp [exs_one, h0, hl]
    refine ⟨fun e => ?_, fun e => ?_⟩
    · have : madeF w (n :: r) = .int n := by simp only [madeF]; rw [if_neg (by simp [h1, h2, h3]), if_pos e]
      rw [this]
    · have : madeF w (n :: r) = .none := by simp only [madeF]; rw [if_neg (by simp [h1, h2, h3]), if_neg e]
      rw [this]
def arity (w : Str) : PyData := (lookS w k_MADE_OF).getD .none
/-- what the program makes of a word and places -/
def progRule (w : Str) (ns : List Int) : PyData :=
  if cmpW .NotEq (.d (arity w)) (.d (.int ns.length)) [] = some true then .none else if 0 ∈ ns then .none else madeF w ns
theorem arity_cases (w : Str) : (w = "not" ∧ arity w = .int 1) ∨ (w = "both" ∧ arity w = .int 2) ∨ (w = "either" ∧ arity w = .int 2) ∨ (w = "turned" ∧ arity w = .int 1) ∨ (w = "chain" ∧ arity w = .int 2) ∨ (w = "some" ∧ arity w = .int 1) ∨ (w ∉ wordsSix ∧ arity w = .none) := by
  by_cases h : w ∈ wordsSix
  · unfold wordsSix at h
    simp only [List.mem_cons, List.not_mem_nil, or_false] at h
    rcases h with rfl | rfl | rfl | rfl | rfl | rfl <;> simp [arity, k_MADE_OF, lookS]
  · right; right; right; right; right; right
    refine ⟨h, ?_⟩
    have := lookMade w
    have hc : wordsSix.contains w = false := by simpa using h
    rw [hc] at this
    unfold arity
    cases e : lookS w k_MADE_OF with
    | none => rfl
    | some v => rw [e] at this; cases this
theorem ne_ar (w : Str) (j : Int) (m : Mem) : cmpW .NotEq (.d (arity w)) (.d (.int j)) m = some (match arity w with | .int i => !(i == j) | _ => true) := by
  rcases arity_cases w with ⟨_, e⟩ | ⟨_, e⟩ | ⟨_, e⟩ | ⟨_, e⟩ | ⟨_, e⟩ | ⟨_, e⟩ | ⟨_, e⟩ <;> rw [e] <;> simp
theorem rule_eq (w : Str) (ns : List Int) (hr : ∀ n ∈ ns, n = 0 ∨ n = 1 ∨ n = 2) (h : (match arity w with | .int i => !(i == (ns.length : Int)) | _ => true) = true) : lawRule w ns = 0 := by
  unfold lawRule
  have h1 : ∀ a b : Int, ns = [a, b] → ns.length = 2 := fun a b e => by rw [e]; rfl
  have h2 : ∀ a : Int, ns = [a] → ns.length = 1 := fun a e => by rw [e]; rfl
  have l2 : ns = [2] → ns.length = 1 := h2 2
  have l22 : ns = [2, 2] → ns.length = 2 := h1 2 2
  have l11 : ns = [1, 1] → ns.length = 2 := h1 1 1
  rcases arity_cases w with ⟨rfl, e⟩ | ⟨rfl, e⟩ | ⟨rfl, e⟩ | ⟨rfl, e⟩ | ⟨rfl, e⟩ | ⟨rfl, e⟩ | ⟨hw, e⟩ <;> rw [e] at h <;> simp at h ⊢
  · omega
  · intro _ hh; exfalso; rcases hh with hh | hh
    · have := l11 hh; omega
    · have := l22 hh; omega
  · intro _ hh; exfalso; rcases hh with hh | hh
    · have := l11 hh; omega
    · have := l22 hh; omega
  · intro _ hh; have := l2 hh; omega
  · intro _ hh; have := l22 hh; omega
  · intro _ hh; have := l2 hh; omega
  · simp [wordsSix] at hw
    simp [hw]
theorem rule_made (w : Str) (ns : List Int) (hr : ∀ n ∈ ns, n = 0 ∨ n = 1 ∨ n = 2) (h0 : 0 ∉ ns) (h : (match arity w with | .int i => !(i == (ns.length : Int)) | _ => true) = false) : ∃ n r, ns = n :: r ∧ madeF w ns = optI (lawRule w ns) := by
  have one : ns.length = 1 → ns = [1] ∨ ns = [2] := fun e => by
    match ns, e with
    | [a], _ =>
      rcases hr a (by simp) with rfl | rfl | rfl
      · exact absurd (by simp) h0
      · simp
      · simp
  have two : ns.length = 2 → ns = [1, 1] ∨ ns = [1, 2] ∨ ns = [2, 1] ∨ ns = [2, 2] := fun e => by
    match ns, e with
    | [a, b], _ =>
      have ha := hr a (by simp)
      have hb := hr b (by simp)
      rcases ha with rfl | rfl | rfl
      · exact absurd (by simp) h0
      · rcases hb with rfl | rfl | rfl
        · exact absurd (by simp) h0
        · simp
        · simp
      · rcases hb with rfl | rfl | rfl
        · exact absurd (by simp) h0
        · simp
        · simp
  rcases arity_cases w with ⟨rfl, e⟩ | ⟨rfl, e⟩ | ⟨rfl, e⟩ | ⟨rfl, e⟩ | ⟨rfl, e⟩ | ⟨rfl, e⟩ | ⟨hw, e⟩ <;> rw [e] at h <;> simp at h
  · rcases one (by omega) with rfl | rfl <;> exact ⟨_, _, rfl, by simp [madeF, lawRule, optI]⟩
  · rcases two (by omega) with rfl | rfl | rfl | rfl <;> exact ⟨_, _, rfl, by simp [madeF, lawRule, optI]⟩
  · rcases two (by omega) with rfl | rfl | rfl | rfl <;> exact ⟨_, _, rfl, by simp [madeF, lawRule, optI]⟩
  · rcases one (by omega) with rfl | rfl <;> exact ⟨_, _, rfl, by simp [madeF, lawRule, optI, minOf]⟩
  · rcases two (by omega) with rfl | rfl | rfl | rfl <;> exact ⟨_, _, rfl, by simp [madeF, lawRule, optI, minOf]⟩
  · rcases one (by omega) with rfl | rfl <;> exact ⟨_, _, rfl, by simp [madeF, lawRule, optI, minOf]⟩
theorem places_below_eq {D : List (PyData × PyData)} (hD : DOk D) : ∀ (l : Nat) (x : PyData), x.weight ≤ 200000 → ∀ (k : Nat) (m : Mem), callF P (k + l + 2) i_places_below [.d (.dict D), .d x, .d (.int l)] m = .ok (.d (optI (plc D l x))) m := by
  have hk : strKeys k_MADE_OF = true := rfl
  intro l
  induction l with
  | zero =>
    intro x hw k m
    refine R.eq_of_wp (callF_wp P (k + 1) _ _ m (f := f_places_below) rfl rfl ?_)
    unfold f_places_below b_places_below
    refine exs_step _ _ _ _ _ _ _ ?_
    cases x with
    | str s =>
      simp [isiD, recv_dict, get_d _ _ hD.keys, exs_one, plc, plcS]
      cases h : lookS s D with
      | none => simp [optI]
      | some v => rcases hD.vals _ _ h with rfl | rfl <;> simp [optI]
    | _ =>
      simp [isiD]
      refine exs_step _ _ _ _ _ _ _ ?_
      simp [isiD, exs_one, plc, optI]
  | succ l ih =>
    intro x hw k m
    refine R.eq_of_wp (callF_wp P (k + l + 2) _ _ m (f := f_places_below) rfl rfl ?_)
    unfold f_places_below b_places_below
    refine exs_step _ _ _ _ _ _ _ ?_
    cases x with
    | str s =>
      simp [isiD, recv_dict, get_d _ _ hD.keys, exs_one, plc, plcS]
      cases h : lookS s D with
      | none => simp [optI]
      | some v => rcases hD.vals _ _ h with rfl | rfl <;> simp [optI]
    | tuple ps =>
      simp [isiD]
      refine exs_step _ _ _ _ _ _ _ ?_
      cases ps with
      | nil => simp [isiD, plc, exs_one, optI]
      | cons w own =>
        have hwl := wt_len own
        simp only [PyData.weight, PyData.weightAll] at hw
        simp [isiD]
        refine ⟨fun h => by omega, fun _ => ?_⟩
        refine exs_step _ _ _ _ _ _ _ ?_
        refine star1_wp _ _ _ _ _ _ _ _ (x := w) (xs := own) (m' := m) (by simp only [ev]; rfl) ?_
        simp
        refine exs_step _ _ _ _ _ _ _ ?_
        cases w with
        | str w =>
          simp [isiD, recv_rod, get_rod _ _ hk]
          rw [show (lookS w k_MADE_OF).getD .none = arity w from rfl, ne_ar]
          simp
          have hr : ∀ n ∈ own.map (plc D l), n = 0 ∨ n = 1 ∨ n = 2 := fun n hn => by
            obtain ⟨y, _, rfl⟩ := List.mem_map.mp hn
            exact plc_range hD l y
          have hlen : ((own.map (plc D l)).length : Int) = own.length := by simp
          have r1 := rule_eq w _ hr
          have r2 := rule_made w _ hr
          rw [hlen] at r1 r2
          refine ⟨fun h => ?_, fun h => ?_⟩
          · simp [exs_one, plc]
            rw [r1 h]; rfl
          · refine exs_step _ _ _ _ _ _ _ ?_
            simp
            refine lcGo_map (fun p => optI (plc D l p)) _ (by unfold LINE; omega) (fun p hp => ?_) ?_
            · have := wt_mem hp
              have e := ih p (by omega) k m
              simp [lcBody_wp, tgSet, wipeE, e]
            · have hns : (own.map fun p => optI (plc D l p)) = (own.map (plc D l)).map optI := by simp
              rw [hns]
              simp only [plc]
              generalize own.map (plc D l) = ns at hr r2
              simp [exs_one, in_none]
              refine ⟨fun h0 => by simp [lawRule, h0, optI], fun h0 => ?_⟩
              obtain ⟨n, r, e, hm⟩ := r2 h0 h
              have ei : ns.map optI = ns.map .int := List.map_congr_left fun n hn => by
                have : n ≠ 0 := fun e => h0 (e ▸ hn)
                simp [optI, this]
              rw [ei]
              subst e
              rw [made_places_eq, hm]
              simp
        | _ => simp [isiD, exs_one, plc, optI]
    | _ =>
      simp [isiD]
      refine exs_step _ _ _ _ _ _ _ ?_
      simp [isiD, exs_one, plc, optI]
end K04
end Lo
/-! What the program tells of terms. -/
namespace Lo
open PySem
theorem lookS_val : ∀ {D : List (PyData × PyData)} {s : Str} {v : PyData}, lookS s D = some v → ∃ p ∈ D, p.2 = v
  | (a, u) :: r, s, v, h => by
    cases a with
    | str x =>
      simp only [lookS] at h
      split at h
      · cases h; exact ⟨_, List.mem_cons_self .., rfl⟩
      · obtain ⟨p, hp, e⟩ := lookS_val h; exact ⟨p, List.mem_cons_of_mem _ hp, e⟩
    | _ => simp only [lookS] at h; obtain ⟨p, hp, e⟩ := lookS_val h; exact ⟨p, List.mem_cons_of_mem _ hp, e⟩
theorem fold_ok (V : PyData → Prop) : ∀ (ps : List (Str × PyData)) (acc : List (PyData × PyData)), strKeys acc = true → (∀ p ∈ acc, V p.2) → (∀ p ∈ ps, V p.2) → strKeys (ps.foldl (fun acc p => storeS p.1 p.2 acc) acc) = true ∧ ∀ p ∈ ps.foldl (fun acc p => storeS p.1 p.2 acc) acc, V p.2
  | [], acc, h1, h2, _ => ⟨h1, h2⟩
  | (k, v) :: r, acc, h1, h2, h3 => by
    simp only [List.foldl_cons]
    refine fold_ok V r _ (storeS_keys k v acc h1) (fun p hp => ?_) (fun p hp => h3 p (by simp [hp]))
    rcases storeS_vals _ _ _ p hp with e | ⟨q, hq, e⟩
    · rw [e]; exact h3 _ (List.mem_cons_self ..)
    · rw [← e]; exact h2 q hq
namespace K04
def plOf (x : PyData) : PyData := match x with
  | .tuple [_, v] => v
  | _ => .none
theorem pairs_nt : ∀ xs : List PyData, (∀ x ∈ xs, isNotion x = true) → pairsOf xs = some (xs.map fun x => (nameOf x, plOf x))
  | [], _ => rfl
  | x :: xs, h => by
    obtain ⟨w, q, rfl, _⟩ := isNotion_form (h x (by simp))
    simp only [pairsOf, pairs_nt xs (fun y hy => h y (by simp [hy])), Option.map_some, List.map_cons, nameOf, plOf]
def ntD (xs : List PyData) : List (PyData × PyData) := (xs.map fun x => (nameOf x, plOf x)).foldl (fun acc p => storeS p.1 p.2 acc) []
theorem ntns_all {xs : List PyData} (h : isNotions (.tuple xs) = true) : ∀ x ∈ xs, isNotion x = true := by
  simp only [isNotions, Bool.and_eq_true] at h
  exact List.all_eq_true.mp h.1.2
theorem ntDict {xs : List PyData} (h : isNotions (.tuple xs) = true) : NtD xs (ntD xs) := by
  have ha := ntns_all h
  have hv : ∀ p ∈ xs.map (fun x => (nameOf x, plOf x)), (fun v => v = PyData.int 1 ∨ v = PyData.int 2) p.2 := fun p hp => by
    obtain ⟨x, hx, rfl⟩ := List.mem_map.mp hp
    obtain ⟨w, q, rfl, _, q1, q2⟩ := isNotion_form (ha x hx)
    have : q = 1 ∨ q = 2 := by omega
    rcases this with rfl | rfl <;> simp [plOf]
  obtain ⟨h1, h2⟩ := fold_ok (fun v => v = PyData.int 1 ∨ v = PyData.int 2) (xs.map fun x => (nameOf x, plOf x)) [] rfl (by simp) hv
  refine ⟨⟨h1, fun s v e => ?_⟩, fun m => ?_⟩
  · obtain ⟨p, hp, rfl⟩ := lookS_val e
    exact h2 p hp
  · simp only [biW, seqOf, pairs_nt xs ha]; rfl
theorem places_in_eq {xs : List PyData} (h : isNotions (.tuple xs) = true) (x : PyData) (hw : x.weight ≤ 200000) (k : Nat) (m : Mem) : callF P (k + 6) i_places_in [.d (.tuple xs), .d x] m = .ok (.d (optI (plc (ntD xs) 3 x))) m := by
  refine R.eq_of_wp (callF_wp P (k + 5) _ _ m (f := f_places_in) rfl rfl ?_)
  have e := places_below_eq (ntDict h).ok 3 x hw k m
  simp at e
  simp [f_places_in, b_places_in, w_exs_cons, (ntDict h).dct, handAll, handed, k_DEEPEST, e]
end K04
end Lo
/-! A valid term's text tells the term. -/
namespace Lo
open PySem
/-- a word of a text: no blank within -/
def noSp (w : Str) : Prop := 32 ∉ w.cps.toList
theorem head_word : ∀ (a b r s : List Nat), 32 ∉ a → 32 ∉ b → (r = [] ∨ ∃ r', r = 32 :: r') → (s = [] ∨ ∃ s', s = 32 :: s') → a ++ r = b ++ s → a = b ∧ r = s
  | [], [], r, s, _, _, _, _, h => ⟨rfl, h⟩
  | [], y :: b, r, s, _, hb, hr, _, h => by
    rcases hr with rfl | ⟨r', rfl⟩
    · simp at h
    · simp only [List.nil_append, List.cons_append, List.cons.injEq] at h
      exact absurd (by rw [← h.1]; simp) hb
  | x :: a, [], r, s, ha, _, _, hs, h => by
    rcases hs with rfl | ⟨s', rfl⟩
    · simp at h
    · simp only [List.nil_append, List.cons_append, List.cons.injEq] at h
      exact absurd (by rw [h.1]; simp) ha
  | x :: a, y :: b, r, s, ha, hb, hr, hs, h => by
    simp only [List.cons_append, List.cons.injEq] at h
    obtain ⟨h1, h2⟩ := head_word a b r s (fun e => ha (by simp [e])) (fun e => hb (by simp [e])) hr hs h.2
    exact ⟨by rw [h.1, h1], h2⟩
def wordsL : List Str → List Nat
  | [] => []
  | w :: ws => 32 :: (w.cps.toList ++ wordsL ws)
theorem wordsL_inj : ∀ (a b : List Str), (∀ w ∈ a, noSp w) → (∀ w ∈ b, noSp w) → wordsL a = wordsL b → a = b
  | [], [], _, _, _ => rfl
  | [], _ :: _, _, _, h => by simp [wordsL] at h
  | _ :: _, [], _, _, h => by simp [wordsL] at h
  | x :: a, y :: b, ha, hb, h => by
    simp only [wordsL, List.cons.injEq, true_and] at h
    have st : ∀ l : List Str, wordsL l = [] ∨ ∃ r, wordsL l = 32 :: r := fun l => by cases l <;> simp [wordsL]
    obtain ⟨h1, h2⟩ := head_word _ _ _ _ (ha x (by simp)) (hb y (by simp)) (st a) (st b) h
    rw [str_ext h1, wordsL_inj a b (fun w hw => ha w (by simp [hw])) (fun w hw => hb w (by simp [hw])) h2]
theorem join_words (w : Str) : ∀ ss : List Str, (Str.join (Str.ofString " ") (w :: ss)).cps.toList = w.cps.toList ++ wordsL ss
  | [] => by simp [Str.join, wordsL]
  | s :: r => by
    have h := join_words s r
    have e : (Str.ofString " ").cps.toList = [32] := by decide +kernel
    simp only [Str.join, toL_append, h, wordsL, e]
    simp
theorem wordsL_app : ∀ a b : List Str, wordsL (a ++ b) = wordsL a ++ wordsL b
  | [], b => rfl
  | x :: a, b => by simp only [List.cons_append, wordsL, wordsL_app a b, List.append_assoc]
/-- a term's words -/
def wordsF : Nat → PyData → List Str
  | _, .str s => [s]
  | d + 1, .tuple (.str w :: ps) => w :: ps.flatMap (wordsF d)
  | _, _ => []
namespace K04
def unary (w : Str) : Bool := w == "not" || w == "turned" || w == "some"
def binary (w : Str) : Bool := w == "both" || w == "either" || w == "chain"
/-- a term of names and words as they take -/
def Vt : Nat → PyData → Prop
  | _, .str s => isName (.str s) = true
  | d + 1, .tuple (.str w :: ps) => ((unary w = true ∧ ps.length = 1) ∨ (binary w = true ∧ ps.length = 2)) ∧ ∀ p ∈ ps, Vt d p
  | _, _ => False
theorem Vt.form {d : Nat} {x : PyData} (h : Vt d x) : (∃ s, x = .str s ∧ isName (.str s) = true) ∨ ∃ d' w ps, d = d' + 1 ∧ x = .tuple (.str w :: ps) ∧ ((unary w = true ∧ ps.length = 1) ∨ (binary w = true ∧ ps.length = 2)) ∧ ∀ p ∈ ps, Vt d' p := by
  unfold Vt at h
  split at h
  · exact .inl ⟨_, rfl, h⟩
  · exact .inr ⟨_, _, _, rfl, rfl, h.1, h.2⟩
  · exact h.elim
theorem six_of {w : Str} (h : unary w = true ∨ binary w = true) : w ∈ wordsSix := by
  unfold unary binary at h
  simp only [Bool.or_eq_true, beq_iff_eq] at h
  unfold wordsSix
  simp only [List.mem_cons, List.not_mem_nil, or_false]
  rcases h with ((h | h) | h) | ((h | h) | h) <;> simp [h]
theorem name_six {s : Str} (h : isName (.str s) = true) : s ∉ wordsSix := by
  simp only [isName, Bool.and_eq_true, Bool.not_eq_true'] at h
  simpa using h.1.2
theorem space_no : isLetter (.str ⟨#[32]⟩) = false := by decide +kernel
theorem name_sp {s : Str} (h : isName (.str s) = true) : noSp s := by
  simp only [isName, Bool.and_eq_true] at h
  intro hc
  have := List.all_eq_true.mp h.2 (.str ⟨#[32]⟩) (List.mem_map.mpr ⟨32, hc, rfl⟩)
  rw [space_no] at this
  cases this
theorem six_sp : ∀ w ∈ wordsSix, noSp w := by
  have : ∀ w ∈ wordsSix, 32 ∉ w.cps.toList := by decide +kernel
  exact this
theorem words_sp : ∀ (d : Nat) (x : PyData), Vt d x → (∀ w ∈ wordsF d x, noSp w) ∧ wordsF d x ≠ []
  | d, x, h => by
    rcases h.form with ⟨s, rfl, hs⟩ | ⟨d', w, ps, rfl, rfl, hw, hp⟩
    · have : wordsF d (.str s) = [s] := by cases d <;> rfl
      rw [this]
      exact ⟨fun w hw => by simp at hw; subst hw; exact name_sp hs, by simp⟩
    · simp only [wordsF]
      refine ⟨fun v hv => ?_, by simp⟩
      rcases List.mem_cons.mp hv with rfl | hv
      · exact six_sp _ (six_of (by rcases hw with h | h; exact .inl h.1; exact .inr h.1))
      · obtain ⟨p, hp', hv⟩ := List.mem_flatMap.mp hv
        exact (words_sp d' p (hp p hp')).1 v hv
theorem text_words : ∀ (d : Nat) (x : PyData), Vt d x → 32 :: (textF d x).cps.toList = wordsL (wordsF d x)
  | d, x, h => by
    rcases h.form with ⟨s, rfl, hs⟩ | ⟨d', w, ps, rfl, rfl, hw, hp⟩
    · have e1 : wordsF d (.str s) = [s] := by cases d <;> rfl
      have e2 : textF d (.str s) = s := by cases d <;> rfl
      rw [e1, e2]; simp [wordsL]
    · simp only [wordsF, textF, join_words, wordsL]
      congr 2
      have : ∀ qs : List PyData, (∀ p ∈ qs, Vt d' p) → wordsL (qs.map (textF d')) = wordsL (qs.flatMap (wordsF d')) := fun qs => by
        induction qs with
        | nil => intro _; rfl
        | cons q r ih =>
          intro hq
          simp only [List.map_cons, List.flatMap_cons, wordsL, wordsL_app]
          rw [ih (fun p hp => hq p (by simp [hp])), ← text_words d' q (hq q (by simp))]
          simp
      exact this ps hp
theorem parse : ∀ (d : Nat) (x : PyData), Vt d x → ∀ (e : Nat) (y : PyData), Vt e y → ∀ r s : List Str, wordsF d x ++ r = wordsF e y ++ s → x = y ∧ r = s
  | d, x, hx, e, y, hy, r, s, h => by
    rcases hx.form with ⟨u, rfl, hu⟩ | ⟨d', w, ps, rfl, rfl, hw, hp⟩
    · have e1 : wordsF d (.str u) = [u] := by cases d <;> rfl
      rw [e1] at h
      rcases hy.form with ⟨v, rfl, hv⟩ | ⟨e', w', qs, rfl, rfl, hw', hq⟩
      · have e2 : wordsF e (.str v) = [v] := by cases e <;> rfl
        rw [e2] at h
        simp only [List.cons_append, List.nil_append, List.cons.injEq] at h
        exact ⟨by rw [h.1], h.2⟩
      · simp only [wordsF, List.cons_append, List.nil_append, List.cons.injEq] at h
        exact absurd (six_of (by rcases hw' with h | h; exact .inl h.1; exact .inr h.1)) (h.1 ▸ name_six hu)
    · rcases hy.form with ⟨v, rfl, hv⟩ | ⟨e', w', qs, rfl, rfl, hw', hq⟩
      · have e2 : wordsF e (.str v) = [v] := by cases e <;> rfl
        rw [e2] at h
        simp only [wordsF, List.cons_append, List.nil_append, List.cons.injEq] at h
        exact absurd (six_of (by rcases hw with h | h; exact .inl h.1; exact .inr h.1)) (h.1 ▸ name_six hv)
      · simp only [wordsF, List.cons_append, List.cons.injEq] at h
        obtain ⟨rfl, h⟩ := h
        have hlen : ps.length = qs.length := by
          rcases hw with ⟨a, b⟩ | ⟨a, b⟩ <;> rcases hw' with ⟨c, f⟩ | ⟨c, f⟩
          · omega
          · exfalso
            unfold unary at a; unfold binary at c
            simp only [Bool.or_eq_true, beq_iff_eq] at a c
            rcases a with (rfl | rfl) | rfl <;> simp at c
          · exfalso
            unfold binary at a; unfold unary at c
            simp only [Bool.or_eq_true, beq_iff_eq] at a c
            rcases a with (rfl | rfl) | rfl <;> simp at c
          · omega
        have hl2 : ps.length = 1 ∨ ps.length = 2 := by rcases hw with ⟨_, b⟩ | ⟨_, b⟩; exact .inl b; exact .inr b
        match ps, qs, hlen, hl2, hp, hq, h with
        | [a], [b], _, _, hp, hq, h =>
          simp only [List.flatMap_cons, List.flatMap_nil, List.append_nil] at h
          obtain ⟨rfl, h2⟩ := parse d' a (hp a (by simp)) e' b (hq b (by simp)) r s h
          exact ⟨rfl, h2⟩
        | [a, a2], [b, b2], _, _, hp, hq, h =>
          simp only [List.flatMap_cons, List.flatMap_nil, List.append_nil, List.append_assoc] at h
          obtain ⟨rfl, h2⟩ := parse d' a (hp a (by simp)) e' b (hq b (by simp)) _ _ h
          obtain ⟨rfl, h3⟩ := parse d' a2 (hp a2 (by simp)) e' b2 (hq b2 (by simp)) r s h2
          exact ⟨rfl, h3⟩
/-- terms of one text are one -/
theorem text_inj {d e : Nat} {x y : PyData} (hx : Vt d x) (hy : Vt e y) (h : textF d x = textF e y) : x = y := by
  have h1 := text_words d x hx
  have h2 := text_words e y hy
  rw [h, h2] at h1
  have h3 := wordsL_inj _ _ (words_sp e y hy).1 (words_sp d x hx).1 h1
  exact (parse d x hx e y hy [] [] (by rw [h3])).1
end K04
end Lo
/-! Fields: what the program counts. -/
namespace Lo
open PySem
namespace K04
/-- the unknowns' rows -/
def rowsF (many : Nat) : Nat → List (List PyData)
  | 0 => [[]]
  | p + 1 => (rowsF many p).flatMap fun r => (List.range many).map fun o => r ++ [.int (o : Nat)]
theorem rowsF_len (many : Nat) : ∀ p, (rowsF many p).length = many ^ p
  | 0 => rfl
  | p + 1 => by
    simp only [rowsF, List.length_flatMap]
    have : ((rowsF many p).map fun r => ((List.range many).map fun o => r ++ [PyData.int (o : Nat)]).length) = (rowsF many p).map fun _ => many := by simp
    rw [this, List.map_const', List.sum_replicate_nat, rowsF_len many p, Nat.pow_succ]
def tupF (r : List PyData) : PyData := .tuple r
theorem rowsF_row (many : Nat) : ∀ q, ∀ r ∈ rowsF many q, r.length = q
  | 0, r, h => by simp [rowsF] at h; subst h; rfl
  | q + 1, r, h => by
    simp only [rowsF, List.mem_flatMap, List.mem_map] at h
    obtain ⟨t, ht, o, _, rfl⟩ := h
    simp [rowsF_row many q t ht]
theorem unknown_rows_eq (k many p : Nat) (m : Mem) (hm : many ≤ 4) (hp : p ≤ 2) (a b : Int) (ha : a = many) (hb : b = p) : callF P (k + 1) i_unknown_rows [.d (.int a), .d (.int b)] m = .ok (.d (.list ((rowsF many p).map tupF))) m := by
  refine R.eq_of_wp ?_
  refine callF_wp (f := f_unknown_rows) P k _ _ m rfl (by rfl) ?_
  have hlen : ∀ q ≤ p, ∀ r ∈ rowsF many q, r.length = q := fun q _ => rowsF_row many q
  unfold f_unknown_rows b_unknown_rows
  refine exs_step _ _ _ _ _ _ _ ?_
  simp
  refine exs_step _ _ _ _ _ _ _ ?_
  subst ha hb
  simp [rng1 (p : Int) (by omega) (by omega)]
  refine forGo_inv (fun j ρ m' => ∃ o3 o4 o5, ρ = [some (.d (.int many)), some (.d (.int p)), some (.d (.list ((rowsF many j).map tupF))), o3, o4, o5] ∧ m' = m) _ 0 _ _ ⟨_, _, _, rfl, rfl⟩ ?_ ?_
  · rintro i x ρ m' hx ⟨o3, o4, o5, rfl, rfl⟩
    obtain ⟨hi, rfl⟩ := rng_mem hx
    rw [Nat.zero_add]
    have hcap : (rowsF many (i + 1)).length ≤ 16 := by
      rw [rowsF_len]
      exact Nat.le_trans (Nat.pow_le_pow_left hm _) (Nat.pow_le_pow_right (show 0 < 4 by decide) (show i + 1 ≤ 2 by omega))
    simp only [tgSet, OS_some, List.set_cons_succ, List.set_cons_zero]
    rw [exs_one]
    simp
    have hfl : (((rowsF many i).map tupF).flatMap fun t => (match t with | .tuple r => (List.range many).map fun o => PyData.tuple (r ++ [.int (o : Nat)]) | _ => [])) = (rowsF many (i + 1)).map tupF := by
      simp only [rowsF, List.flatMap_map, List.map_flatMap, tupF, List.map_map]
      rfl
    refine lc2Go_flat (fun t => match t with | .tuple r => (List.range many).map fun o => .tuple (r ++ [.int (o : Nat)]) | _ => []) _ _ (fun t ht acc' hacc => ?_) ?_
    · obtain ⟨r, hr, rfl⟩ := List.mem_map.mp ht
      obtain ⟨s, _, hl⟩ := hacc
      rw [hfl] at hl
      simp [tupF] at hl
      have hrl := hlen i (by omega) r hr
      simp [lc2Body_wp, tgSet, wipeE, rng1 (many : Int) (by omega) (by omega), tupF]
      refine lcGo_list (fun y => match y with | .int o => some (.tuple (r ++ [.int o])) | _ => none) _ _ (by simp; unfold LINE; omega) (fun y hy => ?_) ?_
      · obtain ⟨o, _, rfl⟩ := List.mem_map.mp hy
        simp [lcBody_wp, tgSet, wipeE]
        unfold LINE; omega
      · simp [List.filterMap_map, Function.comp_def]
    · rw [List.nil_append, hfl]
      simp
  · rintro ρ m' ⟨o3, o4, o5, rfl, rfl⟩
    simp [exs_one]
/-- a notion's name -/
theorem nt_names {xs : List PyData} (h : isNotions (.tuple xs) = true) {s : Str} {v : PyData} (e : lookS s (ntD xs) = some v) : isName (.str s) = true := by
  have ha := ntns_all h
  have hk : ∀ (ps : List (Str × PyData)) (acc : List (PyData × PyData)), (∀ p ∈ acc, ∀ k, p.1 = .str k → isName (.str k) = true) → (∀ p ∈ ps, isName (.str p.1) = true) → ∀ p ∈ ps.foldl (fun acc p => storeS p.1 p.2 acc) acc, ∀ k, p.1 = .str k → isName (.str k) = true := fun ps => by
    induction ps with
    | nil => intro acc h1 _; exact h1
    | cons q r ih =>
      intro acc h1 h2
      simp only [List.foldl_cons]
      refine ih _ (fun p hp k hk => ?_) (fun p hp => h2 p (by simp [hp]))
      unfold storeS at hp
      split at hp
      · obtain ⟨o, ho, rfl⟩ := List.mem_map.mp hp
        have e1 : (if isKey q.1 o.1 = true then (o.1, q.2) else o).1 = o.1 := by split <;> rfl
        rw [e1] at hk
        exact h1 o ho k hk
      · rcases List.mem_append.mp hp with hp | hp
        · exact h1 p hp k hk
        · simp at hp; subst hp
          cases hk
          exact h2 q (by simp)
  have key : ∀ (D : List (PyData × PyData)), lookS s D = some v → ∃ p ∈ D, p.1 = .str s := fun D => by
    induction D with
    | nil => intro e; cases e
    | cons p r ih =>
      intro e
      obtain ⟨a, u⟩ := p
      cases a with
      | str x =>
        simp only [lookS] at e
        split at e
        · rename_i hx; subst hx; exact ⟨_, List.mem_cons_self .., rfl⟩
        · obtain ⟨p, hp, e⟩ := ih e; exact ⟨p, List.mem_cons_of_mem _ hp, e⟩
      | _ => simp only [lookS] at e; obtain ⟨p, hp, e⟩ := ih e; exact ⟨p, List.mem_cons_of_mem _ hp, e⟩
  obtain ⟨p, hp, e1⟩ := key _ e
  refine hk (xs.map fun x => (nameOf x, plOf x)) [] (by simp) (fun q hq => ?_) p hp s e1
  obtain ⟨x, hx, rfl⟩ := List.mem_map.mp hq
  obtain ⟨w, i, rfl, hn, _⟩ := isNotion_form (ha x hx)
  exact hn
theorem rule_words {w : Str} {ns : List Int} (hr : ∀ n ∈ ns, n = 0 ∨ n = 1 ∨ n = 2) (h : lawRule w ns ≠ 0) : (unary w = true ∧ ns.length = 1) ∨ (binary w = true ∧ ns.length = 2) := by
  have h1 := rule_eq w ns hr
  rcases arity_cases w with ⟨rfl, e⟩ | ⟨rfl, e⟩ | ⟨rfl, e⟩ | ⟨rfl, e⟩ | ⟨rfl, e⟩ | ⟨rfl, e⟩ | ⟨hw, e⟩ <;> rw [e] at h1 <;> simp at h1
  · left; refine ⟨by simp [unary], ?_⟩; exact Classical.byContradiction fun hl => h (h1 (by omega))
  · right; refine ⟨by simp [binary], ?_⟩; exact Classical.byContradiction fun hl => h (h1 (by omega))
  · right; refine ⟨by simp [binary], ?_⟩; exact Classical.byContradiction fun hl => h (h1 (by omega))
  · left; refine ⟨by simp [unary], ?_⟩; exact Classical.byContradiction fun hl => h (h1 (by omega))
  · right; refine ⟨by simp [binary], ?_⟩; exact Classical.byContradiction fun hl => h (h1 (by omega))
  · left; refine ⟨by simp [unary], ?_⟩; exact Classical.byContradiction fun hl => h (h1 (by omega))
  · exact absurd h1 h
/-- a term that has places is one -/
theorem plc_vt {xs : List PyData} (h : isNotions (.tuple xs) = true) : ∀ (l : Nat) (x : PyData), plc (ntD xs) l x ≠ 0 → Vt l x
  | l, x, hx => by
    have hD := (ntDict h).ok
    unfold plc at hx
    split at hx
    · rename_i s
      unfold plcS at hx
      split at hx
      · rename_i p e
        have := nt_names h e
        cases l <;> exact this
      · exact absurd rfl hx
    · rename_i l w own
      have hr : ∀ n ∈ own.map (plc (ntD xs) l), n = 0 ∨ n = 1 ∨ n = 2 := fun n hn => by
        obtain ⟨y, _, rfl⟩ := List.mem_map.mp hn
        exact plc_range hD l y
      have hw := rule_words hr hx
      rw [List.length_map] at hw
      unfold Vt
      refine ⟨hw, fun p hp => plc_vt h l p fun e => hx ?_⟩
      unfold lawRule
      rw [if_pos (List.mem_map.mpr ⟨p, hp, e⟩)]
    · exact absurd rfl hx
end K04
end Lo
/-! Terms by their texts: each once. -/
namespace Lo
open PySem
/-- lists of the same things, each once -/
theorem sum_same {α : Type} (f : α → Nat) : ∀ (A B : List α), A.Nodup → B.Nodup → (∀ x, x ∈ A ↔ x ∈ B) → (A.map f).sum = (B.map f).sum
  | [], B, _, _, h => by
    have : B = [] := List.eq_nil_iff_forall_not_mem.mpr fun x hx => by have := (h x).mpr hx; cases this
    rw [this]
  | a :: A, B, hA, hB, h => by
    obtain ⟨B1, B2, rfl⟩ := List.append_of_mem ((h a).mp (by simp))
    rw [List.nodup_cons] at hA
    have hB' : (B1 ++ B2).Nodup := hB.sublist (by simp)
    have ha : a ∉ B1 ++ B2 := by
      rw [List.nodup_append] at hB
      obtain ⟨_, h2, h3⟩ := hB
      rw [List.nodup_cons] at h2
      intro hm
      rcases List.mem_append.mp hm with hm | hm
      · exact h3 a hm a (by simp) rfl
      · exact h2.1 hm
    have hs : ∀ x, x ∈ A ↔ x ∈ B1 ++ B2 := fun x => by
      have := h x
      constructor
      · intro hx
        have hm := this.mp (by simp [hx])
        simp only [List.mem_append, List.mem_cons] at hm ⊢
        rcases hm with hm | hm | hm
        · exact .inl hm
        · subst hm; exact absurd hx hA.1
        · exact .inr hm
      · intro hx
        have hm := this.mpr (by simp only [List.mem_append, List.mem_cons] at hx ⊢; rcases hx with hx | hx; exact .inl hx; exact .inr (.inr hx))
        rcases List.mem_cons.mp hm with e | hm
        · subst e; exact absurd hx ha
        · exact hm
    have := sum_same f A (B1 ++ B2) hA.2 hB' hs
    simp only [List.map_cons, List.sum_cons, List.map_append, List.sum_append] at this ⊢
    omega
/-- the dict of terms by texts -/
structure DX (d : Nat) (xs : List PyData) (kvs : List (PyData × PyData)) : Prop where
  dt : DT xs kvs
  txt : ∀ p ∈ kvs, p.1 = .str (textF d p.2)
  nd : (keysS kvs).Nodup
  all : ∀ x ∈ xs, textF d x ∈ keysS kvs
theorem keyStr_str (k : Str) (v : PyData) : keyStr (.str k, v) = k := rfl
theorem isKey_iff {k : Str} {x : PyData} : isKey k x = true ↔ x = .str k := by
  unfold isKey
  split
  · rename_i y; simp
  · rename_i h; simp; exact fun e => h k e
theorem nd_snoc' {xs : List Str} {x : Str} (h : xs.Nodup) (hx : x ∉ xs) : (xs ++ [x]).Nodup := by
  rw [List.nodup_append]
  refine ⟨h, by simp, fun a ha b hb => ?_⟩
  simp at hb; subst hb
  exact fun e => hx (e ▸ ha)
theorem DX.snoc {d : Nat} {xs : List PyData} {kvs : List (PyData × PyData)} (h : DX d xs kvs) (t : PyData) : DX d (xs ++ [t]) (storeS (textF d t) t kvs) := by
  have hk : (kvs.any fun p => isKey (textF d t) p.1) = true ↔ textF d t ∈ keysS kvs := by
    rw [List.any_eq_true]
    constructor
    · rintro ⟨p, hp, e⟩
      rw [isKey_iff] at e
      exact List.mem_map.mpr ⟨p, hp, by unfold keyStr; rw [e]⟩
    · intro hm
      obtain ⟨p, hp, e⟩ := List.mem_map.mp hm
      refine ⟨p, hp, isKey_iff.mpr ?_⟩
      have := h.txt p hp
      rw [this]
      unfold keyStr at e
      rw [this] at e
      exact congrArg PyData.str e
  refine ⟨h.dt.snoc _ _, ?_, ?_, ?_⟩
  · intro p hp
    unfold storeS at hp
    split at hp
    · obtain ⟨q, hq, rfl⟩ := List.mem_map.mp hp
      split
      · rename_i e; rw [isKey_iff] at e; exact e
      · exact h.txt q hq
    · rcases List.mem_append.mp hp with hp | hp
      · exact h.txt p hp
      · simp at hp; subst hp; rfl
  · unfold storeS
    split
    · have : keysS (kvs.map fun p => if isKey (textF d t) p.1 then (p.1, t) else p) = keysS kvs := by
        unfold keysS
        rw [List.map_map]
        refine List.map_congr_left fun p _ => ?_
        simp only [Function.comp]
        split <;> rfl
      rw [this]; exact h.nd
    · rename_i hn
      have : keysS (kvs ++ [(.str (textF d t), t)]) = keysS kvs ++ [textF d t] := by unfold keysS; rw [List.map_append]; rfl
      rw [this]
      exact nd_snoc' h.nd fun hm => hn (hk.mpr hm)
  · intro x hx
    have keep : ∀ s ∈ keysS kvs, s ∈ keysS (storeS (textF d t) t kvs) := fun s hs => by
      unfold storeS
      split
      · have : keysS (kvs.map fun p => if isKey (textF d t) p.1 then (p.1, t) else p) = keysS kvs := by
          unfold keysS
          rw [List.map_map]
          refine List.map_congr_left fun p _ => ?_
          simp only [Function.comp]
          split <;> rfl
        rw [this]; exact hs
      · unfold keysS at hs ⊢; rw [List.map_append]; exact List.mem_append_left _ hs
    rcases List.mem_append.mp hx with hx | hx
    · exact keep _ (h.all x hx)
    · simp at hx; subst hx
      by_cases hm : textF d x ∈ keysS kvs
      · exact keep _ hm
      · unfold storeS
        rw [if_neg (fun e => hm (hk.mp e))]
        unfold keysS; rw [List.map_append]; exact List.mem_append_right _ (by simp [keyStr])
theorem dictT_DX (d : Nat) (xs : List PyData) : DX d xs (dictT d xs) := by
  have : ∀ n, DX d (xs.take n) (dictT d (xs.take n)) := fun n => by
    induction n with
    | zero => exact ⟨dictT_ok d _, by simp [dictT], by simp [dictT, keysS], by simp⟩
    | succ n ih =>
      by_cases h : n < xs.length
      · rw [List.take_add_one, List.getElem?_eq_getElem h]
        simp only [Option.toList_some]
        rw [dictT_snoc]
        exact ih.snoc _
      · rw [List.take_of_length_le (by omega)]
        rw [List.take_of_length_le (by omega)] at ih
        exact ih
  have h := this xs.length
  rwa [List.take_length] at h
theorem look_txt : ∀ {kvs : List (PyData × PyData)} {k : Str} {v : PyData}, strKeys kvs = true → lookS k kvs = some v → ∃ p ∈ kvs, p.1 = .str k ∧ p.2 = v
  | (a, u) :: r, k, v, hs, h => by
    simp only [strKeys, List.all_cons, Bool.and_eq_true] at hs
    cases a with
    | str x =>
      simp only [lookS] at h
      split at h
      · rename_i e; subst e; cases h; exact ⟨_, List.mem_cons_self .., rfl, rfl⟩
      · obtain ⟨p, hp, e⟩ := look_txt hs.2 h; exact ⟨p, List.mem_cons_of_mem _ hp, e⟩
    | _ => simp at hs
/-- the text of what lies under a key is the key -/
theorem look_text {d : Nat} {xs : List PyData} {k : Str} (hk : k ∈ keysS (dictT d xs)) : ∃ v, lookS k (dictT d xs) = some v ∧ textF d v = k ∧ v ∈ xs := by
  have h := dictT_DX d xs
  obtain ⟨v, e, _⟩ := look_key h.dt.keys k hk
  obtain ⟨p, hp, e1, e2⟩ := look_txt h.dt.keys e
  have := h.txt p hp
  rw [e1] at this
  exact ⟨v, e, by rw [← e2]; exact (PyData.str.inj this).symm, by rw [← e2]; exact h.dt.vals p hp⟩
theorem byTexts_nodup (d : Nat) (xs : List PyData) : (byTextsF d xs).Nodup := by
  have h := dictT_DX d xs
  have hp := sortBy_perm strLe (keysS (dictT d xs))
  unfold byTextsF
  have hn : (sortBy strLe (keysS (dictT d xs))).Nodup := hp.nodup_iff.mpr h.nd
  refine (List.nodup_iff_pairwise_ne.mpr ?_)
  rw [List.pairwise_map]
  refine (List.nodup_iff_pairwise_ne.mp hn).imp_of_mem fun {a b} ha hb hne e => hne ?_
  obtain ⟨v, e1, e2, _⟩ := look_text (mem_sortBy _ _ _ ha)
  obtain ⟨u, f1, f2, _⟩ := look_text (mem_sortBy _ _ _ hb)
  rw [e1, f1] at e
  simp only [Option.getD_some] at e
  rw [← e2, ← f2, e]
namespace K04
theorem byTexts_iff {d : Nat} {xs : List PyData} (hv : ∀ x ∈ xs, Vt d x) (t : PyData) : t ∈ byTextsF d xs ↔ t ∈ xs := by
  refine ⟨byTextsF_mem d xs t, fun ht => ?_⟩
  have h := dictT_DX d xs
  have hk := h.all t ht
  obtain ⟨v, e1, e2, e3⟩ := look_text hk
  unfold byTextsF
  refine List.mem_map.mpr ⟨textF d t, (sortBy_perm strLe _).mem_iff.mpr hk, ?_⟩
  rw [e1, Option.getD_some]
  exact text_inj (hv v e3) (hv t ht) e2
/-- as many as there are just where none comes twice -/
theorem byTexts_len {d : Nat} {xs : List PyData} (hv : ∀ x ∈ xs, Vt d x) : (byTextsF d xs).length = xs.length ↔ xs.Nodup := by
  have hn := byTexts_nodup d xs
  have hi := byTexts_iff hv
  constructor
  · intro hl
    refine Classical.byContradiction fun hx => ?_
    -- a list with twice has a shorter one of the same things
    have short : ∀ ys : List PyData, ¬ ys.Nodup → ∃ zs : List PyData, zs.length < ys.length ∧ ∀ y ∈ ys, y ∈ zs := fun ys => by
      induction ys with
      | nil => intro h; exact absurd List.nodup_nil h
      | cons y r ih =>
        intro h
        rw [List.nodup_cons] at h
        by_cases hy : y ∈ r
        · exact ⟨r, by simp, fun z hz => by rcases List.mem_cons.mp hz with rfl | hz; exact hy; exact hz⟩
        · have hr : ¬ r.Nodup := fun hr => h ⟨hy, hr⟩
          obtain ⟨zs, h1, h2⟩ := ih hr
          exact ⟨y :: zs, by simp; exact h1, fun z hz => by rcases List.mem_cons.mp hz with rfl | hz; simp; simp [h2 z hz]⟩
    obtain ⟨zs, h1, h2⟩ := short xs hx
    have pig : ∀ (A B : List PyData), A.Nodup → (∀ x ∈ A, x ∈ B) → A.length ≤ B.length := fun A => by
      induction A with
      | nil => intro B _ _; simp
      | cons a A ih =>
        intro B hA hs
        obtain ⟨B1, B2, rfl⟩ := List.append_of_mem (hs a (by simp))
        rw [List.nodup_cons] at hA
        have := ih (B1 ++ B2) hA.2 fun x hx => by
          have := hs x (by simp [hx])
          simp only [List.mem_append, List.mem_cons] at this ⊢
          rcases this with h | h | h
          · exact .inl h
          · subst h; exact absurd hx hA.1
          · exact .inr h
        simp only [List.length_append, List.length_cons] at this ⊢
        omega
    have := pig _ zs hn fun x hx => h2 x ((hi x).mp hx)
    omega
  · intro hx
    have := sum_same (fun _ => 1) _ _ hn hx hi
    simpa [List.map_const', List.sum_replicate_nat] using this
end K04
end Lo
/-! Fields: terms, atoms counted, by the program. -/
namespace Lo
open PySem
theorem plc_up {D : List (PyData × PyData)} : ∀ (l : Nat) (x : PyData), plc D l x ≠ 0 → plc D (l + 1) x = plc D l x
  | l, x, h => by
    cases x with
    | str s => cases l <;> simp [plc]
    | tuple ps =>
      cases l with
      | zero => exact absurd (by simp [plc]) h
      | succ l =>
        cases ps with
        | nil => exact absurd (by simp [plc]) h
        | cons w own =>
          cases w with
          | str w =>
            simp only [plc] at h ⊢
            have : own.map (plc D (l + 1)) = own.map (plc D l) := List.map_congr_left fun p hp => plc_up l p fun e => h (by
              unfold lawRule
              rw [if_pos (List.mem_map.mpr ⟨p, hp, e⟩)])
            rw [this]
          | _ => exact absurd (by simp [plc]) h
    | _ => exact absurd (by cases l <;> simp [plc]) h
theorem parts_plc {D : List (PyData × PyData)} : ∀ (l : Nat) (x : PyData), plc D l x ≠ 0 → ∀ y ∈ partsF l x, plc D l y ≠ 0
  | l, x, h, y, hy => by
    cases x with
    | str s =>
      have : y = .str s := by cases l <;> simpa [partsF] using hy
      rw [this]; exact h
    | tuple ps =>
      cases l with
      | zero => exact absurd (by simp [plc]) h
      | succ l =>
        cases ps with
        | nil => exact absurd (by simp [plc]) h
        | cons w own =>
          cases w with
          | str w =>
            simp only [partsF, List.mem_cons] at hy
            rcases hy with rfl | hy
            · exact h
            · obtain ⟨p, hp, hy⟩ := List.mem_flatMap.mp hy
              have hp0 : plc D l p ≠ 0 := fun e => h (by
                simp only [plc]
                unfold lawRule
                rw [if_pos (List.mem_map.mpr ⟨p, hp, e⟩)])
              have := parts_plc l p hp0 y hy
              rw [plc_up l y this]; exact this
          | _ => exact absurd (by simp [plc]) h
    | _ => exact absurd (by cases l <;> simp [plc]) h
theorem look_store (k s : Str) (v : PyData) : ∀ D : List (PyData × PyData), lookS s D ≠ none ∨ k = s → lookS s (storeS k v D) ≠ none := fun D h => by
  have app : ∀ D : List (PyData × PyData), lookS s (D ++ [(.str k, v)]) = (lookS s D).or (if k = s then some v else none) := fun D => by
    induction D with
    | nil => simp [lookS]
    | cons p r ih =>
      obtain ⟨a, u⟩ := p
      cases a with
      | str x =>
        simp only [List.cons_append, lookS, ih]
        split <;> simp
      | _ => simp only [List.cons_append, lookS, ih]
  have mp : ∀ D : List (PyData × PyData), lookS s D ≠ none → lookS s (D.map fun p => if isKey k p.1 then (p.1, v) else p) ≠ none := fun D => by
    induction D with
    | nil => intro h; exact absurd rfl h
    | cons p r ih =>
      obtain ⟨a, u⟩ := p
      intro h
      cases a with
      | str x =>
        have e : (if isKey k (PyData.str x) = true then ((PyData.str x, v) : PyData × PyData) else (.str x, u)) = (.str x, if isKey k (PyData.str x) = true then v else u) := by split <;> rfl
        simp only [List.map_cons, e, lookS] at h ⊢
        split
        · simp
        · rename_i hx; rw [if_neg hx] at h; exact ih h
      | _ =>
        simp only [List.map_cons, isKey, Bool.false_eq_true, if_false, lookS] at h ⊢
        exact ih h
  unfold storeS
  split
  · rename_i hk
    rcases h with h | rfl
    · exact mp D h
    · obtain ⟨p, hp, e⟩ := List.any_eq_true.mp hk
      refine mp D fun hn => ?_
      have : ∀ D : List (PyData × PyData), (∃ p ∈ D, p.1 = .str k) → lookS k D ≠ none := fun D => by
        induction D with
        | nil => rintro ⟨p, hp, _⟩; cases hp
        | cons q r ih =>
          rintro ⟨p, hp, e⟩
          obtain ⟨a, u⟩ := q
          rcases List.mem_cons.mp hp with rfl | hp'
          · simp only at e; subst e; simp [lookS]
          · cases a with
            | str x => simp only [lookS]; split; simp; exact ih ⟨p, hp', e⟩
            | _ => simp only [lookS]; exact ih ⟨p, hp', e⟩
      have e' : p.1 = .str k := by
        unfold isKey at e
        split at e
        · rename_i y hy; rw [hy]; rw [decide_eq_true_eq] at e; rw [e]
        · cases e
      exact this D ⟨p, hp, e'⟩ hn
  · rw [app]
    rcases h with h | rfl
    · cases e : lookS s D with
      | none => exact absurd e h
      | some u => simp
    · cases lookS k D <;> simp
theorem natsum {α : Type} (f : α → Nat) (L : List α) : (L.map fun t => ((f t : Nat) : Int)).sum = (((L.map f).sum : Nat) : Int) := by
  induction L with
  | nil => rfl
  | cons t r ih => simp only [List.map_cons, List.sum_cons, ih, Int.natCast_add]
namespace K04
theorem name_plc {xs : List PyData} (h : isNotions (.tuple xs) = true) (l : Nat) : ∀ x ∈ xs, plc (ntD xs) l (.str (nameOf x)) ≠ 0 := fun x hx => by
  have hk : ∀ (ps : List (Str × PyData)) (acc : List (PyData × PyData)) (s : Str), (lookS s acc ≠ none ∨ ∃ p ∈ ps, p.1 = s) → lookS s (ps.foldl (fun acc p => storeS p.1 p.2 acc) acc) ≠ none := fun ps => by
    induction ps with
    | nil => rintro acc s (h | ⟨p, hp, _⟩); exact h; cases hp
    | cons q r ih =>
      rintro acc s h
      simp only [List.foldl_cons]
      refine ih _ s ?_
      rcases h with h | ⟨p, hp, e⟩
      · exact .inl (look_store _ _ _ _ (.inl h))
      · rcases List.mem_cons.mp hp with rfl | hp
        · exact .inl (look_store _ _ _ _ (.inr e))
        · exact .inr ⟨p, hp, e⟩
  have h1 := hk (xs.map fun x => (nameOf x, plOf x)) [] (nameOf x) (.inr ⟨_, List.mem_map.mpr ⟨x, hx, rfl⟩, rfl⟩)
  have hD := (ntDict h).ok
  have : plc (ntD xs) l (.str (nameOf x)) = plcS (ntD xs) (nameOf x) := by cases l <;> rfl
  rw [this]
  unfold plcS
  cases e : lookS (nameOf x) (ntD xs) with
  | none => exact absurd e h1
  | some v => rcases hD.vals _ _ e with rfl | rfl <;> simp
/-- names and all parts -/
def allL (xs ts : List PyData) : List PyData := xs.map (fun x => .str (nameOf x)) ++ ts.flatMap (partsF 3)
theorem allL_plc {xs ts : List PyData} (h : isNotions (.tuple xs) = true) (ht : ∀ t ∈ ts, plc (ntD xs) 3 t ≠ 0) : ∀ y ∈ allL xs ts, plc (ntD xs) 3 y ≠ 0 := fun y hy => by
  rcases List.mem_append.mp hy with hy | hy
  · obtain ⟨x, hx, rfl⟩ := List.mem_map.mp hy
    exact name_plc h 3 x hx
  · obtain ⟨t, ht', hy⟩ := List.mem_flatMap.mp hy
    exact parts_plc 3 t (ht t ht') y hy
theorem allL_len {xs ts : List PyData} (h : isNotions (.tuple xs) = true) (ht : ∀ t ∈ ts, plc (ntD xs) 3 t ≠ 0) (hl : ts.length ≤ 4) : (allL xs ts).length ≤ 63 := by
  have hx : xs.length ≤ 3 := by simp only [isNotions, Bool.and_eq_true, decide_eq_true_eq] at h; exact h.1.1.2
  have : ∀ ts : List PyData, (∀ t ∈ ts, plc (ntD xs) 3 t ≠ 0) → (ts.flatMap (partsF 3)).length ≤ 15 * ts.length := fun ts => by
    induction ts with
    | nil => intro _; simp
    | cons t r ih =>
      intro ht
      have h1 := (plc_tm (ntDict h).ok 3 t (ht t (by simp))).2
      have h2 := ih fun u hu => ht u (by simp [hu])
      simp only [List.flatMap_cons, List.length_append, List.length_cons] at h2 ⊢
      omega
  have := this ts ht
  unfold allL
  rw [List.length_append, List.length_map]
  omega
theorem allL_wt {xs ts : List PyData} (h : isNotions (.tuple xs) = true) (ht : ∀ t ∈ ts, plc (ntD xs) 3 t ≠ 0) (hw : ∀ t ∈ ts, t.weight ≤ 200000) : ∀ y ∈ allL xs ts, Tm 3 y ∧ y.weight ≤ 200000 := fun y hy => by
  refine ⟨(plc_tm (ntDict h).ok 3 y (allL_plc h ht y hy)).1, ?_⟩
  rcases List.mem_append.mp hy with hy | hy
  · obtain ⟨x, hx, rfl⟩ := List.mem_map.mp hy
    obtain ⟨w, q, rfl, hn, _⟩ := isNotion_form (ntns_all h x hx)
    simp only [isName, Bool.and_eq_true, decide_eq_true_eq] at hn
    have := hn.1.1.2
    simp only [nameOf, PyData.weight]
    have e : w.cps.size = w.length := rfl
    omega
  · obtain ⟨t, ht', hy⟩ := List.mem_flatMap.mp hy
    exact Nat.le_trans (partsF_tm 3 t (plc_tm (ntDict h).ok 3 t (ht t ht')).1 y hy).2 (hw t ht')
theorem terms_by_eq {xs ts : List PyData} (h : isNotions (.tuple xs) = true) (ht : ∀ t ∈ ts, plc (ntD xs) 3 t ≠ 0) (hl : ts.length ≤ 4) (hw : ∀ t ∈ ts, t.weight ≤ 200000) (k : Nat) (m : Mem) : callF P (k + 6) i_terms_by [.d (.tuple xs), .d (.tuple ts)] m = .ok (.d (.tuple (byTextsF 3 (allL xs ts)))) m := by
  refine R.eq_of_wp (callF_wp P (k + 5) _ _ m (f := f_terms_by) rfl rfl ?_)
  have hx : xs.length ≤ 3 := by simp only [isNotions, Bool.and_eq_true, decide_eq_true_eq] at h; exact h.1.1.2
  have hal := allL_len h ht hl
  have haw := allL_wt h ht hw
  unfold f_terms_by b_terms_by
  rw [exs_one]
  simp
  refine lcGo_map (fun x => .str (nameOf x)) _ (by unfold LINE; omega) (fun x hx => ?_) ?_
  · obtain ⟨w, q, rfl, _⟩ := isNotion_form (ntns_all h x hx)
    simp [lcBody_wp, tgSet, wipeE, nameOf]
  · have hfl : (ts.flatMap (partsF 3)).length ≤ 63 := by unfold allL at hal; rw [List.length_append] at hal; omega
    refine lc2Go_flat (partsF 3) ts [] (fun t ht' acc hacc => ?_) ?_
    · obtain ⟨s, _, hs⟩ := hacc
      have e := all_parts_eq 3 t (plc_tm (ntDict h).ok 3 t (ht t ht')).1 (hw t ht') k
      simp only [List.length_nil, Nat.zero_add] at hs
      simp [lc2Body_wp, tgSet, wipeE, e]
      refine lcGo_list some _ _ (by unfold LINE; omega) (fun y hy => ?_) ?_
      · simp [lcBody_wp, tgSet, wipeE]
      · simp
    · rw [List.nil_append]
      have e := by_texts_eq k 3 (allL xs ts) m haw (by omega)
      rw [show k + 3 + 2 = k + 5 by omega] at e
      simp only [add_nn, OS_if, List.length_map]
      refine ⟨by unfold LINE; omega, ?_⟩
      rw [show (List.map (fun x => PyData.str (nameOf x)) xs ++ ts.flatMap (partsF 3)) = allL xs ts from rfl, e]
      simp
def cnt (D : List (PyData × PyData)) (i : Int) (L : List PyData) : Nat := (L.map fun t => i.toNat ^ (plc D 3 t).toNat).sum
theorem many_atoms_eq {xs L : List PyData} (h : isNotions (.tuple xs) = true) (hL : ∀ t ∈ L, plc (ntD xs) 3 t ≠ 0) (hw : ∀ t ∈ L, t.weight ≤ 200000) (hl : L.length ≤ 100) (i : Int) (h1 : 1 ≤ i) (h3 : i ≤ 3) (k : Nat) (m : Mem) : callF P (k + 7) i_many_atoms [.d (.tuple xs), .d (.tuple L), .d (.int i)] m = .ok (.d (.int (cnt (ntD xs) i L))) m := by
  refine R.eq_of_wp (callF_wp P (k + 6) _ _ m (f := f_many_atoms) rfl rfl ?_)
  unfold f_many_atoms b_many_atoms
  rw [exs_one]
  simp
  refine lcGo_map (fun t => .int ((i.toNat ^ (plc (ntD xs) 3 t).toNat : Nat) : Int)) _ (by unfold LINE; omega) (fun t ht => ?_) ?_
  · have hp := plc_range (ntDict h).ok 3 t
    have hp0 := hL t ht
    have e := unknown_rows_eq (k + 5) i.toNat (plc (ntD xs) 3 t).toNat m (by omega) (by omega) i (plc (ntD xs) 3 t) (by omega) (by omega)
    simp [lcBody_wp, tgSet, wipeE, places_in_eq h t (hw t ht), optI, hp0, e, rowsF_len]
  · have e : (L.map fun t => PyData.int ((i.toNat ^ (plc (ntD xs) 3 t).toNat : Nat) : Int)) = (L.map fun t => ((i.toNat ^ (plc (ntD xs) 3 t).toNat : Nat) : Int)).map .int := by simp
    rw [e, sum_new, natsum]
    simp [cnt]
def areShown (xs : List PyData) (x : PyData) : Bool := match x with
  | .tuple ts => decide (1 ≤ ts.length) && decide (ts.length ≤ 4) && ts.all (fun t => decide (plc (ntD xs) 3 t ≠ 0)) && decide ((byTextsF 3 ts).length = ts.length)
  | _ => false
theorem by_texts_tup (k d : Nat) (xs : List PyData) (m : Mem) (h : ∀ x ∈ xs, Tm d x ∧ x.weight ≤ 200000) (hl : xs.length < 64) : callF P (k + d + 2) i_by_texts [.d (.tuple xs)] m = .ok (.d (.tuple (byTextsF d xs))) m := by
  refine R.eq_of_wp (callF_wp P (k + d + 1) _ _ m (f := f_by_texts) rfl rfl ?_)
  unfold f_by_texts b_by_texts
  have hd := dictT_ok d xs
  have hdl := hd.len
  refine exs_step _ _ _ _ _ _ _ ?_
  simp
  refine lcGo_pure (g := fun acc t => addD (textF d t, t) acc) xs [] (fun x hx acc => ?_) (fun r hr => ?_) ⟨_, foldM_dict d xs [] (by unfold LINE; simp; omega)⟩
  · simp [dcBody_wp, tgSet, wipeE, text_of_eq d x (h x hx).1 (h x hx).2]
  · rw [foldM_dict d xs [] (by unfold LINE; simp; omega)] at hr
    cases hr
    rw [show xs.foldl (fun acc t => storeS (textF d t) t acc) [] = dictT d xs from rfl]
    refine exs_step _ _ _ _ _ _ _ ?_
    simp [sorted_d _ hd.keys (show (dictT d xs).length < 64 by omega)]
    refine lcGo_map (lookH (dictT d xs)) _ (by simp [sortBy_len, keysS]; unfold LINE; omega) (fun x hx => ?_) ?_
    · obtain ⟨s, hs, rfl⟩ := List.mem_map.mp hx
      obtain ⟨v, h1, _⟩ := look_key hd.keys s (mem_sortBy _ _ _ hs)
      simp [lcBody_wp, tgSet, wipeE, ix_dict _ _ hd.keys, h1, lookH]
    · simp [tup_new, byTextsF, lookH]
theorem isNone_opt (p : Int) : isNone (.d (optI p)) = decide (p = 0) := by
  unfold optI
  by_cases h : p = 0 <;> simp [h, isNone]
theorem are_shown_eq {xs : List PyData} (h : isNotions (.tuple xs) = true) (x : PyData) (hw : x.weight ≤ 200000) (k : Nat) (m : Mem) : callF P (k + 7) i_are_shown [.d (.tuple xs), .d x] m = .ok (.d (.bool (areShown xs x))) m := by
  refine R.eq_of_wp (callF_wp P (k + 6) _ _ m (f := f_are_shown) rfl rfl ?_)
  unfold f_are_shown b_are_shown
  refine exs_step _ _ _ _ _ _ _ ?_
  cases x with
  | tuple ts =>
    simp only [PyData.weight] at hw
    simp [isiD, k_MOST_TERMS, exs_one]
    refine ⟨fun h1 => ⟨fun h3 => by simp [areShown]; omega, fun h3 => ?_⟩, fun h1 => by simp [areShown]; omega⟩
    refine exs_step _ _ _ _ _ _ _ ?_
    have htw : ∀ t ∈ ts, t.weight ≤ 200000 := fun t ht => by have := wt_mem ht; omega
    simp [exs_one]
    refine lcGo_map (fun t => .bool (decide (plc (ntD xs) 3 t ≠ 0))) _ (by unfold LINE; omega) (fun t ht => ?_) ?_
    · simp [lcBody_wp, tgSet, wipeE, places_in_eq h t (htw t ht), isNone_opt]
    · rw [all_new, boolL_map]
      simp
      refine ⟨fun t ht e => ?_, fun hall => ?_⟩
      · simp [areShown]
        intro _ _ ha; exact absurd e (ha t ht)
      · have e := by_texts_tup (k + 1) 3 ts m (fun t ht => ⟨(plc_tm (ntDict h).ok 3 t (hall t ht)).1, htw t ht⟩) (by omega)
        rw [show k + 1 + 3 + 2 = k + 6 by omega] at e
        simp [e, areShown]
        have ha : ts.all (fun t => !decide (plc (ntD xs) 3 t = 0)) = true := by simpa using hall
        rw [ha, decide_eq_true (by omega : 1 ≤ ts.length), decide_eq_true (by omega : ts.length ≤ 4), Bool.eq_iff_iff]
        simp
        omega
  | _ => simp [isiD, exs_one, areShown]
end K04
end Lo
/-! Fields known by the program. -/
namespace Lo
open PySem
@[simp] theorem len_list (m : Mem) (a : List PyData) : biW .len [.d (.list a)] m = some (.d (.int a.length)) := id rfl
namespace K04
def fieldC (xs ts : List PyData) (i : Int) : Bool := decide (cnt (ntD xs) i ts ≤ 10) && decide (cnt (ntD xs) i (byTextsF 3 (allL xs ts)) ≤ 40)
def isField (x : PyData) : Bool := match x with
  | .tuple [.tuple xs, .tuple ts, .int i] => isNotions (.tuple xs) && areShown xs (.tuple ts) && isWithin (.int i) 1 3 && fieldC xs ts i
  | _ => false
theorem shown_form {xs ts : List PyData} (h : areShown xs (.tuple ts) = true) : 1 ≤ ts.length ∧ ts.length ≤ 4 ∧ (∀ t ∈ ts, plc (ntD xs) 3 t ≠ 0) ∧ (byTextsF 3 ts).length = ts.length := by
  simp only [areShown, Bool.and_eq_true, decide_eq_true_eq, List.all_eq_true] at h
  exact ⟨h.1.1.1, h.1.1.2, h.1.2, h.2⟩
theorem is_field_eq (x : PyData) (hw : x.weight ≤ 200000) (k : Nat) (m : Mem) : callF P (k + 9) i_is_field [.d x] m = .ok (.d (.bool (isField x))) m := by
  refine R.eq_of_wp (callF_wp P (k + 8) _ _ m (f := f_is_field) rfl rfl ?_)
  unfold f_is_field b_is_field
  refine exs_step _ _ _ _ _ _ _ ?_
  cases x with
  | tuple ps =>
    match ps with
    | [n, s, i] =>
      simp only [PyData.weight, PyData.weightAll] at hw
      simp [isiD]
      refine exs_step _ _ _ _ _ _ _ ?_
      simp [tgSet]
      refine exs_step _ _ _ _ _ _ _ ?_
      simp [is_notions_eq]
      cases hn : isNotions n with
      | false =>
        have : isField (.tuple [n, s, i]) = false := by
          unfold isField
          split
          · rename_i e; cases e; rw [hn]; rfl
          · rfl
        simp [exs_one, this]
      | true =>
        obtain ⟨xs, rfl⟩ : ∃ xs, n = .tuple xs := by cases n <;> simp [isNotions] at hn; exact ⟨_, rfl⟩
        simp [are_shown_eq hn s (by omega)]
        cases hs : areShown xs s with
        | false =>
          have : isField (.tuple [.tuple xs, s, i]) = false := by
            unfold isField
            split
            · rename_i e; cases e; rw [hs]; simp
            · rfl
          simp [exs_one, this]
        | true =>
          obtain ⟨ts, rfl⟩ : ∃ ts, s = .tuple ts := by cases s <;> simp [areShown] at hs; exact ⟨_, rfl⟩
          simp [is_within_eq, k_MOST_UNKNOWNS]
          cases hi : isWithin i 1 3 with
          | false =>
            have : isField (.tuple [.tuple xs, .tuple ts, i]) = false := by
              unfold isField
              split
              · rename_i e; cases e; rw [hi]; simp
              · rfl
            simp [exs_one, this]
          | true =>
            obtain ⟨j, rfl⟩ : ∃ j, i = .int j := by cases i <;> simp [isWithin] at hi; exact ⟨_, rfl⟩
            have hj : 1 ≤ j ∧ j ≤ 3 := by simpa [isWithin] using hi
            obtain ⟨h1, h4, hv, hd⟩ := shown_form hs
            simp only [PyData.weight] at hw
            have htw : ∀ t ∈ ts, t.weight ≤ 200000 := fun t ht => by have := wt_mem ht; omega
            have haw := allL_wt hn hv htw
            have hap := allL_plc hn hv
            have hal := allL_len hn hv h4
            have e1 := many_atoms_eq hn hv htw (by omega) j hj.1 hj.2 (k + 1) m
            have e2 := terms_by_eq hn hv h4 htw (k + 2) m
            have e3 := many_atoms_eq (L := byTextsF 3 (allL xs ts)) hn (fun t ht => hap t (byTextsF_mem _ _ t ht)) (fun t ht => (haw t (byTextsF_mem _ _ t ht)).2) (by have := byTextsF_len 3 (allL xs ts); omega) j hj.1 hj.2 (k + 1) m
            have hf : isField (.tuple [.tuple xs, .tuple ts, .int j]) = fieldC xs ts j := by
              show (isNotions (.tuple xs) && areShown xs (.tuple ts) && isWithin (.int j) 1 3 && fieldC xs ts j) = _
              rw [hn, hs, hi]; rfl
            rw [hf]
            simp
            refine exs_step _ _ _ _ _ _ _ ?_
            simp [e1, k_MOST_SHOWN, exs_one]
            refine ⟨fun h => ?_, fun h => ?_⟩
            · have : ¬ cnt (ntD xs) j ts ≤ 10 := by omega
              simp [fieldC, this]
            · have : cnt (ntD xs) j ts ≤ 10 := by omega
              simp [exs_one, e2, e3, k_MOST_ATOMS, fieldC, this]
              try omega
    | [] => simp [isiD, isField, exs_one]
    | [a] => simp [isiD, isField, exs_one]
    | [a, b] => simp [isiD, isField, exs_one]
    | a :: b :: c :: d :: r =>
      simp [isiD, isField, exs_one]
      intro h; exfalso; omega
  | _ => simp [isiD, isField, exs_one]
theorem need_field_no (x : PyData) (hw : x.weight ≤ 200000) (h : isField x = false) (k : Nat) (m : Mem) : callF P (k + 10) i_need_field [.d x] m = .exc 3 m := by
  refine R.exc_of_wp (callF_wp P (k + 9) _ _ m (f := f_need_field) rfl rfl ?_)
  simp [f_need_field, b_need_field, w_exs_cons, is_field_eq x hw, h]
theorem terms_of_no (x : PyData) (hw : x.weight ≤ 200000) (h : isField x = false) (k : Nat) (m : Mem) : callF P (k + 11) i_terms_of [.d x] m = .exc 3 m := by
  refine R.exc_of_wp (callF_wp P (k + 10) _ _ m (f := f_terms_of) rfl rfl ?_)
  simp [f_terms_of, b_terms_of, w_exs_cons, need_field_no x hw h]
theorem atoms_of_no (x b : PyData) (hw : x.weight ≤ 200000) (h : isField x = false) (k : Nat) (m : Mem) : callF P (k + 11) i_atoms_of [.d x, .d b] m = .exc 3 m := by
  refine R.exc_of_wp (callF_wp P (k + 10) _ _ m (f := f_atoms_of) rfl rfl ?_)
  simp [f_atoms_of, b_atoms_of, w_exs_cons, need_field_no x hw h]
theorem is_atom_no (x a b : PyData) (hw : x.weight ≤ 200000) (h : isField x = false) (k : Nat) (m : Mem) : callF P (k + 11) i_is_atom [.d x, .d a, .d b] m = .exc 3 m := by
  refine R.exc_of_wp (callF_wp P (k + 10) _ _ m (f := f_is_atom) rfl rfl ?_)
  simp [f_is_atom, b_is_atom, w_exs_cons, need_field_no x hw h]
theorem place_of_no (x a : PyData) (hw : x.weight ≤ 200000) (h : isField x = false) (k : Nat) (m : Mem) : callF P (k + 11) i_place_of [.d x, .d a] m = .exc 3 m := by
  refine R.exc_of_wp (callF_wp P (k + 10) _ _ m (f := f_place_of) rfl rfl ?_)
  simp [f_place_of, b_place_of, w_exs_cons, need_field_no x hw h]
end K04
end Lo
/-! Fields known by the law. -/
namespace Lo
open PySem
theorem ix_newd {D : List (PyData × PyData)} (m : Mem) (k : Str) (h : strKeys D = true) : ixW (.newd D) (.d (.str k)) m = (lookS k D).map .d := by
  simp only [ixW, dictR, dictOf, h, if_true]
namespace K04
theorem rule_width {w : Str} {ns : List Int} (hr : ∀ n ∈ ns, n = 0 ∨ n = 1 ∨ n = 2) (h : lawRule w ns ≠ 0) : lawRule w ns = if w = "turned" ∨ w = "chain" then 2 else if w = "some" then 1 else ns.headD 0 := by
  have hw := rule_words hr h
  unfold lawRule at h ⊢
  by_cases h0 : 0 ∈ ns
  · rw [if_pos h0] at h; exact absurd rfl h
  · rw [if_neg h0] at h ⊢
    by_cases e1 : w = "turned"
    · subst e1
      simp at h ⊢
      by_cases e : ns = [2] <;> simp [e] at h ⊢
    · by_cases e2 : w = "some"
      · subst e2
        simp at h ⊢
        by_cases e : ns = [2] <;> simp [e] at h ⊢
      · by_cases e3 : w = "chain"
        · subst e3
          simp at h ⊢
          by_cases e : ns = [2, 2] <;> simp [e] at h ⊢
        · simp only [e1, e2, e3, false_or, or_false, if_false] at h ⊢
          by_cases e4 : w = "not"
          · rw [if_pos e4] at h ⊢
            by_cases e : ns.length = 1
            · rw [if_pos e]
            · rw [if_neg e] at h; exact absurd rfl h
          · rw [if_neg e4] at h ⊢
            by_cases e : (w = "both" ∨ w = "either") ∧ (ns = [1, 1] ∨ ns = [2, 2])
            · rw [if_pos e]
            · rw [if_neg e] at h; exact absurd rfl h
theorem law_width_eq {xs : List PyData} (h : isNotions (.tuple xs) = true) : ∀ (l : Nat) (x : PyData), plc (ntD xs) l x ≠ 0 → ∀ (k : Nat) (m : Mem), callF P (k + l + 1) i__law_width [.d (.tuple xs), .d x] m = .ok (.d (.int (plc (ntD xs) l x))) m := by
  have hD := ntDict h
  intro l
  induction l with
  | zero =>
    intro x hx k m
    refine R.eq_of_wp (callF_wp P k _ _ m (f := f__law_width) rfl rfl ?_)
    unfold f__law_width b__law_width
    refine exs_step _ _ _ _ _ _ _ ?_
    cases x with
    | str s =>
      simp only [plc] at hx ⊢
      unfold plcS at hx ⊢
      cases e : lookS s (ntD xs) with
      | none => rw [e] at hx; exact absurd rfl hx
      | some v => rcases hD.ok.vals _ _ e with rfl | rfl <;> simp [isiD, hD.dct, ix_newd _ _ hD.ok.keys, e, exs_one]
    | _ => exact absurd (by simp [plc]) hx
  | succ l ih =>
    intro x hx k m
    refine R.eq_of_wp (callF_wp P (k + (l + 1)) _ _ m (f := f__law_width) rfl rfl ?_)
    unfold f__law_width b__law_width
    refine exs_step _ _ _ _ _ _ _ ?_
    cases x with
    | str s =>
      simp only [plc] at hx ⊢
      unfold plcS at hx ⊢
      cases e : lookS s (ntD xs) with
      | none => rw [e] at hx; exact absurd rfl hx
      | some v => rcases hD.ok.vals _ _ e with rfl | rfl <;> simp [isiD, hD.dct, ix_newd _ _ hD.ok.keys, e, exs_one]
    | tuple ps =>
      cases ps with
      | nil => exact absurd (by simp [plc]) hx
      | cons w own =>
        cases w with
        | str w =>
          simp only [plc] at hx ⊢
          have hr : ∀ n ∈ own.map (plc (ntD xs) l), n = 0 ∨ n = 1 ∨ n = 2 := fun n hn => by
            obtain ⟨y, _, rfl⟩ := List.mem_map.mp hn
            exact plc_range hD.ok l y
          have hwd := rule_width hr hx
          have hww := rule_words hr hx
          rw [List.length_map] at hww
          have h0 : ∀ p ∈ own, plc (ntD xs) l p ≠ 0 := fun p hp e => hx (by
            unfold lawRule
            rw [if_pos (List.mem_map.mpr ⟨p, hp, e⟩)])
          rw [hwd]
          have e0 : atI (PyData.str w :: own) 0 = some (.str w) := by simp [atI, ixN]
          simp [isiD]
          refine exs_step _ _ _ _ _ _ _ ?_
          simp [e0]
          rw [show ([PyData.str "turned", .str "chain"] : List PyData) = ([Str.ofString "turned", Str.ofString "chain"] : List Str).map .str from rfl, inO_strs]
          simp [exs_one]
          refine ⟨fun hw a b => by rcases hw with h | h <;> contradiction, fun h1 h2 => ?_⟩
          simp [e0, h1, h2]
          refine ⟨fun h3 h4 => absurd h3 h4, fun h3 => ?_⟩
          have hne : ∃ p r, own = p :: r := by
            cases own with
            | nil => rcases hww with ⟨_, e⟩ | ⟨_, e⟩ <;> simp at e
            | cons p r => exact ⟨p, r, rfl⟩
          obtain ⟨p, r, rfl⟩ := hne
          have e1 : atI (PyData.str w :: p :: r) 1 = some p := by rw [atI_nat (by decide) (by simp)]; rfl
          have e := ih p (h0 p (by simp)) k m
          simp [e1, show k + (l + 1) = k + l + 1 by omega, e, h3]
        | _ => exact absurd (by simp [plc]) hx
    | _ => exact absurd (by cases l <;> simp [plc]) hx
theorem law_rows_eq (k many p : Nat) (m : Mem) (hm : many ≤ 4) (hp : p = 1 ∨ p = 2) (a b : Int) (ha : a = many) (hb : b = p) : ∃ L, callF P (k + 1) i__law_rows [.d (.int a), .d (.int b)] m = .ok (.new L) m ∧ L.length = many ^ p := by
  rcases hp with rfl | rfl
  · refine ⟨(List.range many).map fun o => .tuple [.int (o : Nat)], ?_, by simp⟩
    refine R.eq_of_wp (callF_wp P k _ _ m (f := f__law_rows) rfl rfl ?_)
    unfold f__law_rows b__law_rows
    refine exs_step _ _ _ _ _ _ _ ?_
    subst ha hb
    simp [exs_one, rng1 (many : Int) (by omega) (by omega)]
    refine lcGo_map (fun x => .tuple [x]) _ (by simp; unfold LINE; omega) (fun x hx => ?_) ?_
    · obtain ⟨o, _, rfl⟩ := List.mem_map.mp hx
      simp [lcBody_wp, tgSet, wipeE]
    · simp [Function.comp_def]
  · refine ⟨(List.range many).flatMap fun o => (List.range many).map fun u => .tuple [.int (o : Nat), .int (u : Nat)], ?_, ?_⟩
    · refine R.eq_of_wp (callF_wp P k _ _ m (f := f__law_rows) rfl rfl ?_)
      unfold f__law_rows b__law_rows
      refine exs_step _ _ _ _ _ _ _ ?_
      subst ha hb
      simp
      refine exs_step _ _ _ _ _ _ _ ?_
      simp
      refine exs_step _ _ _ _ _ _ _ ?_
      simp [rng1 (many : Int) (by omega) (by omega)]
      refine forGo_inv (fun j ρ m' => ∃ o2 o4, ρ = [some (.d (.int many)), some (.d (.int 2)), o2, some (.ref m.length), o4] ∧ m' = m ++ [.lst ((List.range j).flatMap fun o => (List.range many).map fun u => .tuple [.int (o : Nat), .int (u : Nat)])]) _ 0 _ _ ⟨_, _, rfl, by simp⟩ ?_ ?_
      · rintro i x ρ m' hx ⟨o2, o4, rfl, rfl⟩
        obtain ⟨hi, rfl⟩ := rng_mem hx
        rw [Nat.zero_add]
        have hlen : ((List.range i).flatMap fun o => (List.range many).map fun u => PyData.tuple [.int (o : Nat), .int (u : Nat)]).length = i * many := by
          rw [List.length_flatMap]
          simp [List.map_const', List.sum_replicate_nat]
        have hb : i * many ≤ 16 := Nat.le_trans (Nat.mul_le_mul (by omega : i ≤ 4) hm) (by decide)
        simp only [tgSet, OS_some, List.set_cons_succ, List.set_cons_zero]
        rw [exs_one]
        simp [recv_extend (get_end _ _), rng1 (many : Int) (by omega) (by omega)]
        refine lcGo_map (fun x => .tuple [.int (i : Nat), x]) _ (by simp; unfold LINE; omega) (fun x hx => ?_) ?_
        · obtain ⟨o, _, rfl⟩ := List.mem_map.mp hx
          simp [lcBody_wp, tgSet, wipeE]
        · rw [extend_new _ (get_end _ _) (by rw [hlen]; simp; unfold LINE; omega)]
          simp [List.range_succ, Function.comp_def]
      · rintro ρ m' ⟨o2, o4, rfl, rfl⟩
        simp [exs_one]
        rw [fin_own _ _ _ _ _ _ (Nat.le_refl _) (get_end _ _)]
        simp
    · rw [List.length_flatMap]
      simp [List.map_const', List.sum_replicate_nat, Nat.pow_two]
end K04
end Lo
/-! Fields: the law's atoms. -/
namespace Lo
open PySem
def inB (t : PyData) (ts : List PyData) : Bool := ts.any fun y => PyData.eqv y t
namespace K04
theorem vt_ok : ∀ (d : Nat) (x : PyData), Vt d x → noDict x = true ∧ x.depth ≤ d
  | d, x, h => by
    rcases h.form with ⟨s, rfl, _⟩ | ⟨d', w, ps, rfl, rfl, _, hp⟩
    · simp [noDict, PyData.depth]
    · have h1 : ∀ qs : List PyData, (∀ p ∈ qs, Vt d' p) → noDicts qs = true ∧ PyData.depthAll qs ≤ d' := fun qs => by
        induction qs with
        | nil => intro _; simp [noDicts, PyData.depthAll]
        | cons q r ih =>
          intro hq
          obtain ⟨a, b⟩ := vt_ok d' q (hq q (by simp))
          obtain ⟨c, e⟩ := ih fun p hp => hq p (by simp [hp])
          simp only [noDicts, PyData.depthAll, a, c, Bool.and_self, true_and]
          omega
      obtain ⟨a, b⟩ := h1 ps hp
      simp [noDict, noDicts, PyData.depth, PyData.depthAll, a]
      omega
theorem eqv_vt : ∀ (d : Nat) (x : PyData), Vt d x → ∀ y, PyData.eqv x y = true ↔ x = y := by
  intro d
  induction d with
  | zero =>
    intro x h y
    rcases h.form with ⟨s, rfl, _⟩ | ⟨d', w, ps, e, _⟩
    · cases y <;> simp [PyData.eqv]
    · cases e
  | succ d ih0 =>
    intro x h y
    rcases h.form with ⟨s, rfl, _⟩ | ⟨d', w, ps, e, rfl, _, hp⟩
    · cases y <;> simp [PyData.eqv]
    · cases e
      cases y with
      | tuple qs =>
        cases qs with
        | nil => simp [PyData.eqv, PyData.eqvAll]
        | cons q qs =>
          have h1 : ∀ as bs : List PyData, (∀ p ∈ as, Vt d p) → (PyData.eqvAll as bs = true ↔ as = bs) := fun as => by
            induction as with
            | nil => intro bs _; cases bs <;> simp [PyData.eqvAll]
            | cons a r ih =>
              intro bs ha
              cases bs with
              | nil => simp [PyData.eqvAll]
              | cons b t =>
                simp only [PyData.eqvAll, Bool.and_eq_true, ih0 a (ha a (by simp)) b, ih t (fun p hp => ha p (by simp [hp])), List.cons.injEq]
          have h2 := h1 ps qs hp
          have hs : PyData.eqv (.tuple (.str w :: ps)) (.tuple (q :: qs)) = (PyData.eqv (.str w) q && PyData.eqvAll ps qs) := by
            have e1 : ∀ a b : List PyData, PyData.eqv (.tuple a) (.tuple b) = PyData.eqvAll a b := fun a b => by rw [PyData.eqv]
            rw [e1, PyData.eqvAll]
          rw [hs, Bool.and_eq_true, h2]
          have hq : PyData.eqv (.str w) q = true ↔ PyData.str w = q := by cases q <;> simp [PyData.eqv]
          rw [hq]
          constructor
          · rintro ⟨rfl, rfl⟩; rfl
          · intro e; cases e; exact ⟨rfl, rfl⟩
      | _ => simp [PyData.eqv]
theorem inO_vt {t : PyData} {ts : List PyData} (ht : Vt 3 t) (hs : ∀ y ∈ ts, Vt 3 y) : inO t ts = some (inB t ts) ∧ (inB t ts = true ↔ t ∈ ts) := by
  have ok : ∀ x, Vt 3 x → cmpOk x = true := fun x hx => by
    obtain ⟨a, b⟩ := vt_ok 3 x hx
    simp only [cmpOk, a, Bool.true_and, decide_eq_true_eq]
    omega
  constructor
  · unfold inO
    rw [if_pos (by rw [ok t ht, Bool.true_and]; exact List.all_eq_true.mpr fun y hy => ok y (hs y hy))]
    rfl
  · unfold inB
    rw [List.any_eq_true]
    exact ⟨fun ⟨y, hy, e⟩ => ((eqv_vt 3 y (hs y hy) t).mp e) ▸ hy, fun h => ⟨t, h, (eqv_vt 3 t ht t).mpr rfl⟩⟩
theorem flat_names (xs : List PyData) : ((xs.map fun x => PyData.str (nameOf x)).flatMap (partsF 3)) = xs.map fun x => .str (nameOf x) := by
  induction xs with
  | nil => rfl
  | cons x r ih => simp only [List.map_cons, List.flatMap_cons, ih]; rfl
theorem law_terms_eq {xs ts : List PyData} (h : isNotions (.tuple xs) = true) (ht : ∀ t ∈ ts, plc (ntD xs) 3 t ≠ 0) (hl : ts.length ≤ 4) (hw : ∀ t ∈ ts, t.weight ≤ 200000) (k : Nat) (m : Mem) : callF P (k + 6) i__law_terms [.d (.tuple xs), .d (.tuple ts)] m = .ok (.new (byTextsF 3 (allL xs ts))) m := by
  refine R.eq_of_wp (callF_wp P (k + 5) _ _ m (f := f__law_terms) rfl rfl ?_)
  have hx : xs.length ≤ 3 := by simp only [isNotions, Bool.and_eq_true, decide_eq_true_eq] at h; exact h.1.1.2
  have hal := allL_len h ht hl
  unfold f__law_terms b__law_terms
  refine exs_step _ _ _ _ _ _ _ ?_
  simp
  refine exs_step _ _ _ _ _ _ _ ?_
  simp
  refine lcGo_map (fun x => .str (nameOf x)) _ (by unfold LINE; omega) (fun x hx => ?_) ?_
  · obtain ⟨w, q, rfl, _⟩ := isNotion_form (ntns_all h x hx)
    simp [lcBody_wp, tgSet, wipeE, nameOf]
  simp
  refine ⟨by unfold LINE; omega, ?_⟩
  have hL : ∀ y ∈ (xs.map fun x => PyData.str (nameOf x)) ++ ts, Tm 3 y ∧ y.weight ≤ 200000 := fun y hy => by
    rcases List.mem_append.mp hy with hy | hy
    · obtain ⟨x, hx, rfl⟩ := List.mem_map.mp hy
      obtain ⟨w, q, rfl, hn, _⟩ := isNotion_form (ntns_all h x hx)
      simp only [isName, Bool.and_eq_true, decide_eq_true_eq] at hn
      have := hn.1.1.2
      have e : w.cps.size = w.length := rfl
      refine ⟨by simp [Tm, nameOf], ?_⟩
      simp only [nameOf, PyData.weight]; omega
    · exact ⟨(plc_tm (ntDict h).ok 3 y (ht y hy)).1, hw y hy⟩
  have hfa : ((xs.map fun x => PyData.str (nameOf x)) ++ ts).flatMap (partsF 3) = allL xs ts := by
    rw [List.flatMap_append, flat_names]; rfl
  generalize (xs.map fun x => PyData.str (nameOf x)) ++ ts = L at hL hfa
  rw [← hfa] at hal ⊢
  refine forGo_inv (fun j ρ m' => ∃ o3 o4 o5 o6 o7, ρ = [some (.d (.tuple xs)), some (.d (.tuple ts)), some (.ref m.length), o3, o4, o5, o6, o7] ∧ m' = m ++ [.dic (dictT 3 ((L.take j).flatMap (partsF 3)))]) L 0 _ _ ⟨_, _, _, _, _, rfl, rfl⟩ ?_ ?_
  · rintro i y ρ m' hy ⟨o3, o4, o5, o6, o7, rfl, rfl⟩
    obtain ⟨hi, rfl⟩ := List.getElem?_eq_some_iff.mp hy
    rw [Nat.zero_add]
    obtain ⟨ty, wy⟩ := hL _ (List.getElem_mem hi)
    have htk : (L.take (i + 1)).flatMap (partsF 3) = (L.take i).flatMap (partsF 3) ++ partsF 3 L[i] := by
      rw [List.take_add_one, List.getElem?_eq_getElem hi, Option.toList_some, List.flatMap_append]
      simp only [List.flatMap_cons, List.flatMap_nil, List.append_nil]
    have hcap : ((L.take i).flatMap (partsF 3)).length + (partsF 3 L[i]).length ≤ 63 := by
      have e : L.flatMap (partsF 3) = (L.take i).flatMap (partsF 3) ++ (partsF 3 L[i] ++ (L.drop (i + 1)).flatMap (partsF 3)) := by
        conv => lhs; rw [← List.take_append_drop i L, List.drop_eq_getElem_cons hi]
        rw [List.flatMap_append, List.flatMap_cons]
      rw [e, List.length_append, List.length_append] at hal
      omega
    rw [htk]
    have e1 := _law_parts_eq 3 L[i] ty wy k
    have hpt := partsF_tm 3 L[i] ty
    generalize (L.take i).flatMap (partsF 3) = pre at hcap
    generalize L[i] = y at *
    simp only [tgSet, OS_some, List.set_cons_succ, List.set_cons_zero]
    rw [exs_one]
    simp [e1]
    refine forGo_inv (fun j ρ m' => ∃ o6, ρ = [some (.d (.tuple xs)), some (.d (.tuple ts)), some (.ref m.length), some (.d y), o4, o5, o6, o7] ∧ m' = m ++ [.dic (dictT 3 (pre ++ (partsF 3 y).take j))]) (partsF 3 y) 0 _ _ ⟨_, rfl, by simp⟩ ?_ ?_
    · rintro j z ρ m' hz ⟨o6, rfl, rfl⟩
      obtain ⟨hj, rfl⟩ := List.getElem?_eq_some_iff.mp hz
      rw [Nat.zero_add]
      obtain ⟨tz, wz⟩ := hpt _ (List.getElem_mem hj)
      have htk2 : (partsF 3 y).take (j + 1) = (partsF 3 y).take j ++ [(partsF 3 y)[j]] := by rw [List.take_add_one]; simp [hj]
      rw [htk2, ← List.append_assoc, dictT_snoc]
      have hd := dictT_ok 3 (pre ++ (partsF 3 y).take j)
      have hdl := hd.len
      have e2 := law_text_eq 3 (partsF 3 y)[j] tz (Nat.le_trans wz wy) (k + 1)
      rw [show k + 1 + 3 + 1 = k + 5 by omega] at e2
      rw [List.length_append, List.length_take] at hdl
      generalize (partsF 3 y)[j] = z at e2
      simp [tgSet, exs_one, e2, put_dict _ _ (get_end _ _) hd.keys (show (dictT 3 (pre ++ (partsF 3 y).take j)).length < LINE by unfold LINE; omega)]
    · rintro ρ m' ⟨o6, rfl, rfl⟩
      rw [Nat.zero_add, List.take_length]
      first | exact ⟨_, _, _, _, _, rfl, rfl⟩ | exact ⟨⟨_, _, _, _, _, rfl⟩, rfl⟩
  · rintro ρ m' ⟨o3, o4, o5, o6, o7, rfl, rfl⟩
    rw [Nat.zero_add, List.take_length]
    have hd := dictT_ok 3 (L.flatMap (partsF 3))
    have hdl := hd.len
    generalize L.flatMap (partsF 3) = A at hd hdl hal
    simp [exs_one, sorted_r (get_end _ _) hd.keys (show (dictT 3 A).length < 64 by omega)]
    refine lcGo_map (lookH (dictT 3 A)) _ (by simp [sortBy_len, keysS]; unfold LINE; omega) (fun x hx => ?_) ?_
    · obtain ⟨s, hs, rfl⟩ := List.mem_map.mp hx
      obtain ⟨v, h1, _⟩ := look_key hd.keys s (mem_sortBy _ _ _ hs)
      simp [lcBody_wp, tgSet, wipeE, ix_rdict _ (get_end _ _) hd.keys, h1, lookH]
    · simp [byTextsF, lookH]
def cntL (D : List (PyData × PyData)) (i : Int) (bare : Int) (ts L : List PyData) : Nat := (L.map fun t => if bare = 0 ∨ inB t ts = true then i.toNat ^ (plc D 3 t).toNat else 0).sum
def AtI (m : Mem) (xs ts : List PyData) (i bare : Int) (L : List PyData) (j : Nat) (ρ : En) (m' : Mem) : Prop := ∃ A o3 o4, ρ = [some (.d (.tuple [.tuple xs, .tuple ts, .int i])), some (.d (.int bare)), some (.ref m.length), o3, o4] ∧ m' = m ++ [.lst A] ∧ A.length = cntL (ntD xs) i bare ts (L.take j) ∧ A.length ≤ 9 * j
def AtX (m : Mem) (xs ts : List PyData) (i bare : Int) (t : PyData) (o4 : Option W) (A : List PyData) (n : Nat) (ρ : En) (m' : Mem) : Prop := ∃ R : List PyData, R.length = n ∧ ρ = [some (.d (.tuple [.tuple xs, .tuple ts, .int i])), some (.d (.int bare)), some (.ref m.length), some (.d t), o4] ∧ m' = m ++ [.lst (A ++ R)]
theorem law_atoms_eq {xs ts : List PyData} (h : isNotions (.tuple xs) = true) (ht : ∀ t ∈ ts, plc (ntD xs) 3 t ≠ 0) (hl : ts.length ≤ 4) (hw : ∀ t ∈ ts, t.weight ≤ 200000) (i : Int) (h1 : 1 ≤ i) (h3 : i ≤ 3) (bare : Int) (k : Nat) (m : Mem) : ∃ A, callF P (k + 7) i__law_atoms [.d (.tuple [.tuple xs, .tuple ts, .int i]), .d (.int bare)] m = .ok (.new A) m ∧ A.length = cntL (ntD xs) i bare ts (byTextsF 3 (allL xs ts)) := by
  have hap := allL_plc h ht
  have hal := allL_len h ht hl
  have hbl := byTextsF_len 3 (allL xs ts)
  have e0 := law_terms_eq h ht hl hw k
  have hmem : ∀ t ∈ byTextsF 3 (allL xs ts), plc (ntD xs) 3 t ≠ 0 := fun t ht' => hap t (byTextsF_mem _ _ t ht')
  generalize hL : byTextsF 3 (allL xs ts) = L at hbl e0 hmem
  have hvt : ∀ y ∈ ts, Vt 3 y := fun y hy => plc_vt h 3 y (ht y hy)
  suffices hs : (callF P (k + 7) i__law_atoms [.d (.tuple [.tuple xs, .tuple ts, .int i]), .d (.int bare)] m).wp (fun w m' => ∃ A, w = .new A ∧ m' = m ∧ A.length = cntL (ntD xs) i bare ts L) noE by
    cases hc : callF P (k + 7) i__law_atoms [.d (.tuple [.tuple xs, .tuple ts, .int i]), .d (.int bare)] m with
    | ok w m' => rw [hc, wp_ok] at hs; obtain ⟨A, rfl, rfl, e⟩ := hs; exact ⟨A, rfl, e⟩
    | exc c m' => rw [hc, wp_exc] at hs; exact hs.elim
    | bad => rw [hc, wp_bad] at hs; exact hs.elim
  refine callF_wp P (k + 6) _ _ m (f := f__law_atoms) rfl rfl ?_
  unfold f__law_atoms b__law_atoms
  have a0 : atI [PyData.tuple xs, .tuple ts, .int i] 0 = some (.tuple xs) := rfl
  have a1 : atI [PyData.tuple xs, .tuple ts, .int i] 1 = some (.tuple ts) := rfl
  have a2 : atI [PyData.tuple xs, .tuple ts, .int i] 2 = some (.int i) := rfl
  refine exs_step _ _ _ _ _ _ _ ?_
  simp
  refine exs_step _ _ _ _ _ _ _ ?_
  simp [a0, a1, e0]
  refine forGo_inv (AtI m xs ts i bare L) L 0 _ _ ⟨[], _, _, rfl, rfl, by simp [cntL], by simp⟩ ?_ ?_
  · rintro j t ρ m' ht' ⟨A, o3, o4, rfl, rfl, hA, hA9⟩
    obtain ⟨hj, rfl⟩ := List.getElem?_eq_some_iff.mp ht'
    rw [Nat.zero_add] at hA hA9 ⊢
    have hp0 := hmem _ (List.getElem_mem hj)
    have hpr := plc_range (ntDict h).ok 3 L[j]
    have htk : L.take (j + 1) = L.take j ++ [L[j]] := by rw [List.take_add_one]; simp [hj]
    have hcs : cntL (ntD xs) i bare ts (L.take (j + 1)) = cntL (ntD xs) i bare ts (L.take j) + (if bare = 0 ∨ inB L[j] ts = true then i.toNat ^ (plc (ntD xs) 3 L[j]).toNat else 0) := by
      rw [htk]
      unfold cntL
      rw [List.map_append, List.sum_append]
      simp only [List.map_cons, List.map_nil, List.sum_cons, List.sum_nil, Nat.add_zero]
    obtain ⟨hin, _⟩ := inO_vt (plc_vt h 3 L[j] hp0) hvt
    have hwd := law_width_eq h 3 L[j] hp0 (k + 2)
    rw [show k + 2 + 3 + 1 = k + 6 by omega] at hwd
    generalize L[j] = t at *
    have hpw : i.toNat ^ (plc (ntD xs) 3 t).toNat ≤ 9 := by
      have hi3 : i.toNat ≤ 3 := by omega
      have hq : (plc (ntD xs) 3 t).toNat ≤ 2 := by omega
      exact Nat.le_trans (Nat.pow_le_pow_left hi3 _) (Nat.pow_le_pow_right (show 0 < 3 by decide) hq)
    have ext : (ex (P.cs (callF P (k + 6))) (.ex (.mt .extend (.v 2) [.lc (.tup [.v 3, .v 4]) [4] (.v 4) (.call i__law_rows [.ix (.v 0) (.c (.int 2)), .call i__law_width [.ix (.v 0) (.c (.int 0)), .v 3]]) []])) [some (.d (.tuple [.tuple xs, .tuple ts, .int i])), some (.d (.int bare)), some (.ref m.length), some (.d t), o4] (m ++ [.lst A])).wp (fun f ρ m' => f = .nx ∧ AtX m xs ts i bare t o4 A (i.toNat ^ (plc (ntD xs) 3 t).toNat) ρ m') (fun _ _ _ => False) := by
      obtain ⟨Lr, er, hLr⟩ := law_rows_eq (k + 5) i.toNat (plc (ntD xs) 3 t).toNat (m ++ [.lst A]) (by omega) (by omega) i (plc (ntD xs) 3 t) (by omega) (by omega)
      simp [recv_extend (get_end _ _), a0, a2, hwd, er]
      refine lcGo_map (fun r => .tuple [t, r]) _ (by unfold LINE; omega) (fun r hr => ?_) ?_
      · simp [lcBody_wp, tgSet, wipeE]
      · rw [extend_new _ (get_end _ _) (by simp; unfold LINE; omega)]
        simp
        exact ⟨Lr.map fun r => .tuple [t, r], by simp [hLr], rfl, rfl⟩
    simp only [tgSet, OS_some, List.set_cons_succ, List.set_cons_zero]
    rw [exs_one]
    have cont : ∀ (f : Fl) (ρ : En) (m' : Mem), (f = .nx ∧ AtX m xs ts i bare t o4 A (i.toNat ^ (plc (ntD xs) 3 t).toNat) ρ m') → (bare = 0 ∨ inB t ts = true) → f = .nx ∧ AtI m xs ts i bare L (j + 1) ρ m' := by
      rintro f ρ m' ⟨rfl, R, hR, rfl, rfl⟩ hb
      refine ⟨rfl, A ++ R, _, _, rfl, rfl, ?_, ?_⟩
      · rw [hcs, if_pos hb, List.length_append, hA, hR]
      · rw [List.length_append, hR]; omega
    have done : (bare = 0 ∨ inB t ts = true) → (exs (P.cs (callF P (k + 6))) [.ex (.mt .extend (.v 2) [.lc (.tup [.v 3, .v 4]) [4] (.v 4) (.call i__law_rows [.ix (.v 0) (.c (.int 2)), .call i__law_width [.ix (.v 0) (.c (.int 0)), .v 3]]) []])] [some (.d (.tuple [.tuple xs, .tuple ts, .int i])), some (.d (.int bare)), some (.ref m.length), some (.d t), o4] (m ++ [.lst A])).wp (fun f ρ m' => f = .nx ∧ AtI m xs ts i bare L (j + 1) ρ m') (fun _ _ _ => False) := fun hb => by
      rw [exs_one]
      exact RS.wp_mono ext (fun f ρ m' h => cont f ρ m' h hb) (fun _ _ _ h => h)
    simp [a1, hin]
    refine ⟨fun hb => ?_, fun hb => ⟨fun hi => ?_, fun hi => ?_⟩⟩
    · refine RS.wp_mono (done (.inl hb)) ?_ (fun _ _ _ h => h.elim)
      rintro f ρ m' ⟨rfl, h⟩
      exact h
    · refine RS.wp_mono (done (.inr hi)) ?_ (fun _ _ _ h => h.elim)
      rintro f ρ m' ⟨rfl, h⟩
      exact h
    · refine ⟨A, _, _, rfl, rfl, ?_, by omega⟩
      rw [hcs, if_neg (by simp [hb, hi]), hA]; rfl
  · rintro ρ m' ⟨A, o3, o4, rfl, rfl, hA, hA9⟩
    rw [Nat.zero_add, List.take_length] at hA
    simp [exs_one]
    rw [fin_own _ _ _ _ _ _ (Nat.le_refl _) (get_end _ _)]
    simpa using hA
end K04
end Lo
/-! Fields: the law's word and the program's are one. -/
namespace Lo
open PySem
theorem ints_one (r : List PyData) (h : ∀ x ∈ r, x = .int 1) : r = (List.replicate r.length (1 : Int)).map .int := by
  induction r with
  | nil => rfl
  | cons x r ih =>
    rw [h x (by simp)]
    simp only [List.length_cons, List.replicate_succ, List.map_cons]
    rw [← ih fun y hy => h y (by simp [hy])]
namespace K04
theorem ne_n0 (r : List PyData) (m : Mem) (h : ∀ x ∈ r, x = .int 1) : cmpW .NotEq (.new r) (.new []) m = some (!r.isEmpty) := by
  have := eq_n0 r m h
  show (eqO (.list r) (.list [])).map (fun b => !b) = _
  rw [show eqO (.list r) (.list []) = some r.isEmpty from this]; rfl
theorem nodup_at {ts : List PyData} : ts.Nodup ↔ ∀ i (h : i < ts.length), ts[i] ∉ ts.take i := by
  rw [List.nodup_iff_pairwise_ne, List.pairwise_iff_getElem]
  constructor
  · intro h i hi hm
    obtain ⟨j, hj, e⟩ := List.mem_iff_getElem.mp hm
    rw [List.length_take] at hj
    rw [List.getElem_take] at e
    exact h j i (by omega) hi (by omega) e
  · intro h i j hi hj hij e
    exact h j hj (List.mem_iff_getElem.mpr ⟨i, by rw [List.length_take]; omega, by rw [List.getElem_take]; exact e⟩)
theorem fieldC_eq {xs ts : List PyData} (h : isNotions (.tuple xs) = true) (hv : ∀ t ∈ ts, plc (ntD xs) 3 t ≠ 0) (hn : ts.Nodup) (i : Int) :
    cntL (ntD xs) i 0 ts (byTextsF 3 (allL xs ts)) = cnt (ntD xs) i (byTextsF 3 (allL xs ts)) ∧ cntL (ntD xs) i 1 ts (byTextsF 3 (allL xs ts)) = cnt (ntD xs) i ts := by
  have hap := allL_plc h hv
  have hvt : ∀ y ∈ ts, Vt 3 y := fun y hy => plc_vt h 3 y (hv y hy)
  have havt : ∀ y ∈ allL xs ts, Vt 3 y := fun y hy => plc_vt h 3 y (hap y hy)
  have hin : ∀ t ∈ byTextsF 3 (allL xs ts), (inB t ts = true ↔ t ∈ ts) := fun t ht => (inO_vt (havt t (byTextsF_mem _ _ t ht)) hvt).2
  constructor
  · unfold cntL cnt
    congr 1
  · have hf : ∀ L : List PyData, (∀ t ∈ L, (inB t ts = true ↔ t ∈ ts)) → cntL (ntD xs) i 1 ts L = ((L.filter fun t => inB t ts).map fun t => i.toNat ^ (plc (ntD xs) 3 t).toNat).sum := fun L => by
      induction L with
      | nil => intro _; rfl
      | cons t r ih =>
        intro hL
        have := ih fun u hu => hL u (by simp [hu])
        unfold cntL at this ⊢
        rw [List.map_cons, List.sum_cons, this, List.filter_cons]
        cases inB t ts <;> simp
    rw [hf _ hin]
    unfold cnt
    refine sum_same _ _ _ ((byTexts_nodup 3 _).sublist List.filter_sublist) hn fun t => ?_
    rw [List.mem_filter]
    constructor
    · rintro ⟨h1, h2⟩; exact (hin t h1).mp h2
    · intro ht
      have hb : t ∈ byTextsF 3 (allL xs ts) := (byTexts_iff havt t).mpr (List.mem_append_right _ (List.mem_flatMap.mpr ⟨t, ht, by
        rcases (plc_tm (ntDict h).ok 3 t (hv t ht)).1.form with ⟨s, rfl⟩ | ⟨d', w, ps, e, rfl, _⟩
        · simp [partsF]
        · simp [partsF]⟩))
      exact ⟨hb, (hin t hb).mpr ht⟩
theorem law_is_field_eq (x : PyData) (hw : x.weight ≤ 200000) (k : Nat) (m : Mem) : callF P (k + 9) i__law_is_field [.d x] m = .ok (.d (.bool (isField x))) m := by
  refine R.eq_of_wp (callF_wp P (k + 8) _ _ m (f := f__law_is_field) rfl rfl ?_)
  unfold f__law_is_field b__law_is_field
  refine exs_step _ _ _ _ _ _ _ ?_
  cases x with
  | tuple ps =>
    match ps with
    | [n, s, i] =>
      simp only [PyData.weight, PyData.weightAll] at hw
      have a0 : atI [n, s, i] 0 = some n := rfl
      have a1 : atI [n, s, i] 1 = some s := rfl
      have a2 : atI [n, s, i] 2 = some i := rfl
      have fF : (isNotions n = false ∨ (∀ xs, n = .tuple xs → areShown xs s = false) ∨ isWithin i 1 3 = false) → isField (.tuple [n, s, i]) = false := fun h => by
        unfold isField
        split
        · rename_i e
          cases e
          rcases h with h | h | h
          · rw [h]; rfl
          · rw [h _ rfl]; simp
          · rw [h]; simp
        · rfl
      simp [isiD, a0, law_are_notions_eq]
      cases hn : isNotions n with
      | false => simp [exs_one, fF (.inl hn)]
      | true =>
        obtain ⟨xs, rfl⟩ : ∃ xs, n = .tuple xs := by cases n <;> simp [isNotions] at hn; exact ⟨_, rfl⟩
        simp
        refine exs_step _ _ _ _ _ _ _ ?_
        cases s with
        | tuple ts =>
          have hlen : ∀ ts : List PyData, (¬ 1 ≤ ts.length ∨ ¬ ts.length ≤ 4) → areShown xs (.tuple ts) = false := fun ts h => by
            simp only [areShown]
            rcases h with h | h
            · rw [decide_eq_false h]; simp
            · rw [decide_eq_false h]; simp
          simp [isiD, a1, a2, law_is_from_eq, exs_one]
          refine ⟨fun h1 => ⟨fun h4 => ?_, fun h4 => ?_⟩, fun h1 => ?_⟩
          · rw [fF (.inr (.inl fun ys e => by cases e; exact hlen ts (by omega)))]
          · cases hi : isWithin i 1 3 with
            | false => simp [fF (.inr (.inr hi))]
            | true =>
              obtain ⟨j, rfl⟩ : ∃ j, i = .int j := by cases i <;> simp [isWithin] at hi; exact ⟨_, rfl⟩
              have hj : 1 ≤ j ∧ j ≤ 3 := by simpa [isWithin] using hi
              simp only [PyData.weight] at hw
              have htw : ∀ t ∈ ts, t.weight ≤ 200000 := fun t ht => by have := wt_mem ht; omega
              simp
              refine exs_step _ _ _ _ _ _ _ ?_
              simp [a0, a1]
              refine lcGo_list (fun t => if plc (ntD xs) 3 t = 0 then some (.int 1) else none) _ _ (by simp; unfold LINE; omega) (fun t ht => ?_) ?_
              · have e := law_places_eq (ntDict hn) 3 t (htw t ht) (k + 4) m
                rw [show k + 4 + 3 + 1 = k + 8 by omega] at e
                simp at e
                simp [lcBody_wp, tgSet, wipeE, a0, e]
              · rw [List.nil_append, ne_n0 _ _ (fun x hx => by
                  obtain ⟨t, _, e⟩ := List.mem_filterMap.mp hx
                  split at e
                  · exact (Option.some.inj e).symm
                  · cases e)]
                simp [exs_one]
                refine ⟨fun t ht h0 => ?_, fun hv => ?_⟩
                · rw [fF (.inr (.inl fun ys e => by
                    cases e
                    simp only [areShown]
                    have : (ts.all fun t => decide (plc (ntD xs) 3 t ≠ 0)) = false := by
                      rw [List.all_eq_false]
                      exact ⟨t, ht, by simp [h0]⟩
                    rw [this]; simp))]
                · have hvt : ∀ y ∈ ts, Vt 3 y := fun y hy => plc_vt hn 3 y (hv y hy)
                  refine exs_step _ _ _ _ _ _ _ ?_
                  simp [a1, rng1 (ts.length : Int) (by omega) (by omega)]
                  refine lcGo_list (fun x => match x with | .int a => if inB (ts[a.toNat]?.getD .none) (ts.take a.toNat) = true then some (.int 1) else none | _ => none) _ _ (by simp; unfold LINE; omega) (fun x hx => ?_) ?_
                  · obtain ⟨a, ha, rfl⟩ := List.mem_map.mp hx
                    have ha : a < ts.length := by simpa using ha
                    have ea : atI ts (a : Int) = some ts[a] := by rw [atI_nat (by omega) (by simpa using ha)]; simp
                    obtain ⟨hio, _⟩ := inO_vt (hvt _ (List.getElem_mem ha)) (fun y hy => hvt y (List.take_subset _ _ hy) : ∀ y ∈ ts.take a, Vt 3 y)
                    simp [lcBody_wp, tgSet, wipeE, a1, ea, cut_to, hio, ha]
                  · rw [List.nil_append, ne_n0 _ _ (fun x hx => by
                      obtain ⟨t, ht, e⟩ := List.mem_filterMap.mp hx
                      obtain ⟨a, _, rfl⟩ := List.mem_map.mp ht
                      simp only at e
                      split at e
                      · exact (Option.some.inj e).symm
                      · cases e)]
                    have hnd : (((List.range ts.length).map fun k => PyData.int (k : Nat)).filterMap fun x => match x with | .int a => if inB (ts[a.toNat]?.getD .none) (ts.take a.toNat) = true then some (PyData.int 1) else none | _ => none).isEmpty = true ↔ ts.Nodup := by
                      rw [List.isEmpty_iff, List.filterMap_eq_nil_iff, nodup_at]
                      constructor
                      · intro h a ha hm
                        have := h (.int (a : Nat)) (List.mem_map.mpr ⟨a, by simpa using ha, rfl⟩)
                        simp [ha] at this
                        have h2 := (inO_vt (hvt _ (List.getElem_mem ha)) (fun y hy => hvt y (List.take_subset _ _ hy) : ∀ y ∈ ts.take a, Vt 3 y)).2.mpr hm
                        rw [h2] at this; cases this
                      · intro h x hx
                        obtain ⟨a, ha, rfl⟩ := List.mem_map.mp hx
                        have ha : a < ts.length := by simpa using ha
                        simp [ha]
                        cases hb : inB ts[a] (ts.take a) with
                        | false => rfl
                        | true => exact absurd ((inO_vt (hvt _ (List.getElem_mem ha)) (fun y hy => hvt y (List.take_subset _ _ hy) : ∀ y ∈ ts.take a, Vt 3 y)).2.mp hb) (h a ha)
                    generalize (((List.range ts.length).map fun k => PyData.int (k : Nat)).filterMap fun x => match x with | .int a => if inB (ts[a.toNat]?.getD .none) (ts.take a.toNat) = true then some (PyData.int 1) else none | _ => none) = Z at hnd
                    have hbl := byTexts_len hvt
                    cases hZ : Z.isEmpty with
                    | false =>
                      have hnn : ¬ ts.Nodup := fun h => by rw [hnd.mpr h] at hZ; cases hZ
                      simp [exs_one, fF (.inr (.inl fun ys e => by cases e; simp only [areShown]; rw [decide_eq_false (mt hbl.mp hnn)]; simp))]
                    | true =>
                      have hn2 := hnd.mp hZ
                      obtain ⟨A1, e1, l1⟩ := law_atoms_eq hn hv (by omega) htw j hj.1 hj.2 1 (k + 1) m
                      obtain ⟨A0, e0, l0⟩ := law_atoms_eq hn hv (by omega) htw j hj.1 hj.2 0 (k + 1) m
                      rw [show k + 1 + 7 = k + 8 by omega] at e1 e0
                      rw [(fieldC_eq hn hv hn2 j).2] at l1
                      rw [(fieldC_eq hn hv hn2 j).1] at l0
                      have hs : areShown xs (.tuple ts) = true := by
                        simp only [areShown, Bool.and_eq_true, decide_eq_true_eq, List.all_eq_true]
                        exact ⟨⟨⟨by omega, by omega⟩, hv⟩, hbl.mpr hn2⟩
                      have hF : isField (.tuple [.tuple xs, .tuple ts, .int j]) = fieldC xs ts j := by
                        unfold isField
                        simp [hn, hs, hi]
                      simp [exs_one, e1, e0, l1, l0, hF, fieldC]
                      refine ⟨fun h => ?_, fun h => ?_⟩
                      · rw [decide_eq_true (by omega : cnt (ntD xs) j ts ≤ 10), Bool.true_and]
                        congr 1
                        exact propext (by omega)
                      · omega
          · rw [fF (.inr (.inl fun ys e => by cases e; exact hlen ts (by omega)))]
        | _ => simp [isiD, a1, exs_one, fF (.inr (.inl fun ys e => rfl))]
    | [] => simp [isiD, isField, exs_one]
    | [a] => simp [isiD, isField, exs_one]
    | [a, b] => simp [isiD, isField, exs_one]
    | a :: b :: c :: d :: r =>
      simp [isiD, isField, exs_one]
      intro h; exfalso; omega
  | _ => simp [isiD, isField, exs_one]
end K04
end Lo
/-! Terms drawn, with their places. -/
namespace Lo
open PySem
theorem isi_exc (sub : Nat → List Nat → Option Bool) (m : Mem) (ts : List Ty) (c : Nat) : isiW sub m ts (.exc c) = (clsL ts).bind (sub c) := rfl
theorem sl_l (m : Mem) (a : List PyData) (lo hi : Option Int) : slW (.d (.list a)) lo hi m = some (.new (cut a lo hi)) := rfl
theorem cut_init {α : Type} (xs : List α) (x : α) : cut (xs ++ [x]) none (some (-1)) = xs := by
  unfold cut sIx
  simp
  rw [show (-1 + ((xs.length : Int) + 1)).toNat = xs.length by omega]
  simp
theorem storeS_mem {k : Str} {v : PyData} {D : List (PyData × PyData)} {p : PyData × PyData} (h : p ∈ storeS k v D) : p ∈ D ∨ p = (.str k, v) := by
  unfold storeS at h
  split at h
  · obtain ⟨q, hq, rfl⟩ := List.mem_map.mp h
    split
    · rename_i e
      rw [isKey_iff] at e
      right; rw [e]
    · left; exact hq
  · rcases List.mem_append.mp h with h | h
    · exact .inl h
    · right; simpa using h
theorem fold_mem : ∀ (ps : List (Str × PyData)) (acc : List (PyData × PyData)), ∀ p ∈ ps.foldl (fun acc p => storeS p.1 p.2 acc) acc, p ∈ acc ∨ ∃ q ∈ ps, p = (.str q.1, q.2)
  | [], acc, p, h => .inl h
  | q :: r, acc, p, h => by
    rcases fold_mem r _ p h with h | ⟨q', hq, e⟩
    · rcases storeS_mem h with h | h
      · exact .inl h
      · exact .inr ⟨q, by simp, h⟩
    · exact .inr ⟨q', by simp [hq], e⟩
def wj : Nat → Nat
  | 0 => 20
  | n + 1 => 2 * wj n + 40
theorem wj_mono : ∀ n, wj n ≤ wj (n + 1) := fun n => by simp only [wj]; omega
theorem wj_ge : ∀ n, 20 ≤ wj n
  | 0 => Nat.le_refl _
  | n + 1 => Nat.le_trans (wj_ge n) (wj_mono n)
namespace K04
theorem noTwice_nd : ∀ (xs : List PyData) (seen : List Str), noTwice seen xs = true → (∀ x ∈ xs, nameOf x ∉ seen) ∧ (xs.map nameOf).Nodup
  | [], _, _ => ⟨by simp, by simp⟩
  | x :: xs, seen, h => by
    simp only [noTwice, Bool.and_eq_true, Bool.not_eq_true', List.contains_eq_mem, decide_eq_false_iff_not] at h
    obtain ⟨h1, h2⟩ := noTwice_nd xs _ h.2
    refine ⟨fun y hy => ?_, ?_⟩
    · rcases List.mem_cons.mp hy with rfl | hy
      · exact h.1
      · exact fun e => h1 y hy (List.mem_append_left _ e)
    · rw [List.map_cons, List.nodup_cons]
      refine ⟨fun e => ?_, h2⟩
      obtain ⟨y, hy, e⟩ := List.mem_map.mp e
      exact h1 y hy (by rw [e]; simp)
theorem nt_look {xs : List PyData} (h : isNotions (.tuple xs) = true) {w : Str} {q : Int} (hx : PyData.tuple [.str w, .int q] ∈ xs) : lookS w (ntD xs) = some (.int q) := by
  have h0 := name_plc h 0 _ hx
  have hD := (ntDict h).ok
  have h0 : plcS (ntD xs) w ≠ 0 := h0
  unfold plcS at h0
  cases e : lookS w (ntD xs) with
  | none => rw [e] at h0; exact absurd rfl h0
  | some v =>
    obtain ⟨p, hp, e1, e2⟩ := look_txt hD.keys e
    rcases fold_mem _ _ p hp with hp | ⟨q', hq, rfl⟩
    · cases hp
    · obtain ⟨y, hy, rfl⟩ := List.mem_map.mp hq
      simp only [PyData.str.injEq] at e1 e2
      have hnd : (xs.map nameOf).Nodup := by
        simp only [isNotions, Bool.and_eq_true] at h
        exact (noTwice_nd xs [] h.2).2
      have : y = .tuple [.str w, .int q] := by
        have inj : ∀ (zs : List PyData), (zs.map nameOf).Nodup → ∀ a ∈ zs, ∀ b ∈ zs, nameOf a = nameOf b → a = b := fun zs => by
          induction zs with
          | nil => intro _ a ha; cases ha
          | cons z r ih =>
            intro hn a ha b hb e
            rw [List.map_cons, List.nodup_cons] at hn
            rcases List.mem_cons.mp ha with ea | ha
            · rcases List.mem_cons.mp hb with eb | hb
              · rw [ea, eb]
              · rw [← ea] at hn; exact absurd (List.mem_map.mpr ⟨b, hb, e.symm⟩) hn.1
            · rcases List.mem_cons.mp hb with eb | hb
              · rw [← eb] at hn; exact absurd (List.mem_map.mpr ⟨a, ha, e⟩) hn.1
              · exact ih hn.2 a ha b hb e
        exact inj xs hnd y hy _ hx e1
      rw [this] at e2
      rw [← e2]; rfl
structure MateOk (xs : List PyData) (j : Nat) (q : Int) (x : PyData) : Prop where
  tm : Tm j x
  tame : Tame (10 ^ 39) (wj j) j x
  pl : plc (ntD xs) j x = q
def TmI (n : Nat) (m : Mem) (xs : List PyData) (deep : Int) (B : Int) (j : Nat) (ρ : En) (m' : Mem) : Prop := ∃ t q o5 o6 o7 o8 o9 o10 o11 o12 p, ρ = [some (.ref n), some (.d (.tuple xs)), some (.d (.int deep)), some (.d t), some (.d (.int q)), o5, o6, o7, o8, o9, o10, o11, o12] ∧ m' = m.set n (poolM p) ∧ PGood (B + 3 * j) p ∧ (q = 1 ∨ q = 2) ∧ MateOk xs j q t
def NmI (xs : List PyData) (q : Int) (base : List PyData → En) (M0 : Mem) (ρ : En) (m' : Mem) : Prop := ∃ L : List PyData, L.length ≤ 3 ∧ (∀ x ∈ L, ∃ w, x = .str w ∧ okN w ∧ .tuple [.str w, .int q] ∈ xs) ∧ ρ = base L ∧ m' = M0
def MtI (xs : List PyData) (j : Nat) (q : Int) (base : List PyData → En) (M0 : Mem) (ρ : En) (m' : Mem) : Prop := ∃ M : List PyData, 1 ≤ M.length ∧ M.length ≤ 7 ∧ (∀ x ∈ M, MateOk xs j q x) ∧ ρ = base M ∧ m' = M0
theorem name_mate {xs : List PyData} (hx : isNotions (.tuple xs) = true) (j : Nat) {w : Str} {q : Int} (h : okN w) (hm : PyData.tuple [.str w, .int q] ∈ xs) : MateOk xs j q (.str w) := ⟨by cases j <;> simp [Tm], Tame.str h.s (by have := h.2.1; have := wj_ge j; omega) _ _, by
  have : plc (ntD xs) j (.str w) = plcS (ntD xs) w := by cases j <;> rfl
  rw [this]; unfold plcS; rw [nt_look hx hm]⟩
theorem word_mate {xs : List PyData} {j : Nat} {q r : Int} {w : Str} {ps : List PyData} (n : Nat) (hw : okS w) (hl : w.length ≤ 6) (hp : ∀ p ∈ ps, MateOk xs j q p) (hN : ps.length = n) (h2 : n ≤ 2) (hr : lawRule w (List.replicate n q) = r) : MateOk xs (j + 1) r (.tuple (.str w :: ps)) := by
  subst hN
  have hn := h2
  refine ⟨Tm.tup fun p h => (hp p h).tm, ?_, ?_⟩
  · have h1 : TL (10 ^ 39) (2 * wj j + 2) j ps := by
      match ps, hn, hp with
      | [], _, _ => exact TL.nil _ _ _
      | [a], _, hp => exact (TL.one (hp a (by simp)).tame).mono (Nat.le_refl _) (by omega) (Nat.le_refl _)
      | [a, b], _, hp => exact (TL.cons (hp a (by simp)).tame (TL.one (hp b (by simp)).tame)).mono (Nat.le_refl _) (by omega) (Nat.le_refl _)
    exact (TL.cons (Tame.str hw hl _ _) h1).tup.mono (Nat.le_refl _) (by simp only [wj]; omega) (Nat.le_refl _)
  · simp only [plc]
    rw [← hr]
    congr 1
    refine List.eq_replicate_iff.mpr ⟨by simp, fun b hb => ?_⟩
    obtain ⟨p, h, rfl⟩ := List.mem_map.mp hb
    exact (hp p h).pl
theorem term_wp (k : Nat) {m : Mem} {n : Nat} {p : Pool} (hm : m[n]? = some (poolM p)) {B : Int} (hp : PGood B p) (hB : B + 30 < 10000000) {xs : List PyData} (h : Ntns xs) (deep : Nat) (hd : deep ≤ 3) {Q : W → Mem → Prop} {E : Nat → Mem → Prop}
    (hq : ∀ t q p', PGood (B + 20) p' → MateOk xs 3 q t → (q = 1 ∨ q = 2) → Q (.d (.tuple [t, .int q])) (m.set n (poolM p'))) : (callF P (k + 2) i__law_term [.ref n, .d (.tuple xs), .d (.int deep)] m).wp Q E := by
  refine callF_wp P (k + 1) _ _ m (f := f__law_term) rfl rfl ?_
  have hn : n < m.length := (List.getElem?_eq_some_iff.mp hm).1
  have hl : ∀ p, (m.set n (poolM p))[n]? = some (poolM p) := fun p => by simp [hn]
  have hxl := h.1
  have hxl3 := h.2.1
  unfold f__law_term b__law_term
  refine exs_step _ _ _ _ _ _ _ ?_
  simp
  refine take_wp k hm hp (by omega) (by omega) (by omega) fun d p1 hp1 hd0 hd1 => ?_
  obtain ⟨y, hy, ey⟩ := atI_in (xs := xs) hd0 hd1
  obtain ⟨w, q, rfl, hw, hq1, hq2⟩ := h.2.2.1 y hy
  simp [ey, tgSet]
  refine exs_step _ _ _ _ _ _ _ ?_
  simp
  refine take_wp k (hl _) hp1 (by omega) (by omega) (by omega) fun a p2 hp2 ha0 ha1 => ?_
  simp [rng1 a ha0 (by omega)]
  refine forGo_inv (fun j => TmI n m xs deep (B + 2) j) _ 0 _ _ ⟨.str w, q, _, _, _, _, _, _, _, _, p2, rfl, rfl, hp2.mono (by omega), by omega, name_mate h.ok 0 hw.1 hy⟩ ?_ ?_
  · rintro j x ρ m' hx ⟨t, q, o5, o6, o7, o8, o9, o10, o11, o12, p, rfl, rfl, hp, hq', ht⟩
    obtain ⟨hj, rfl⟩ := rng_mem hx
    rw [Nat.zero_add] at *
    simp only [tgSet, OS_some, List.set_cons_succ, List.set_cons_zero]
    refine exs_mid (NmI xs q (fun L => [some (.ref n), some (.d (.tuple xs)), some (.d (.int deep)), some (.d t), some (.d (.int q)), some (.d (.int j)), some (.d (.list (L ++ [t]))), o7, o8, o9, o10, o11, o12]) (m.set n (poolM p))) ?_ ?_
    · simp
      refine lcGo_list (fun x => match x with | .tuple [.str w, .int q'] => if q' == q then some (.str w) else none | _ => none) _ _ (by simp; unfold LINE; omega) (fun x hx => ?_) ?_
      · obtain ⟨w, q', rfl, _⟩ := h.2.2.1 x hx
        simp [lcBody_wp, tgSet, wipeE]
      · rw [List.nil_append]
        have hlen := List.length_filterMap_le (fun x => match x with | .tuple [.str w, .int q'] => if q' == q then some (PyData.str w) else none | _ => none) xs
        generalize hF : xs.filterMap (fun x => match x with | .tuple [.str w, .int q'] => if q' == q then some (PyData.str w) else none | _ => none) = F at hlen
        refine ⟨by unfold LINE; omega, F, by omega, ?_, rfl, rfl⟩
        intro x hx
        rw [← hF] at hx
        obtain ⟨y, hy, e⟩ := List.mem_filterMap.mp hx
        obtain ⟨w, q', rfl, hw, _⟩ := h.2.2.1 y hy
        simp only at e
        split at e
        · rename_i eq
          cases e; exact ⟨w, rfl, hw.1, by rw [beq_iff_eq] at eq; rw [← eq]; exact hy⟩
        · cases e
    rintro ρ m' ⟨L, hL1, hL2, rfl, rfl⟩
    refine exs_mid (MtI xs j q (fun M => [some (.ref n), some (.d (.tuple xs)), some (.d (.int deep)), some (.d t), some (.d (.int q)), some (.d (.int j)), some (.d (.list M)), o7, o8, o9, o10, o11, o12]) (m.set n (poolM p))) ?_ ?_
    · have hLt : ∀ x ∈ L ++ [t], MateOk xs j q x := fun x hx => by
        rcases List.mem_append.mp hx with hx | hx
        · obtain ⟨w, rfl, hw, hwx⟩ := hL2 x hx; exact name_mate h.ok j hw hwx
        · simp at hx; subst hx; exact ht
      simp
      refine ⟨fun hi => ?_, fun hi => ?_⟩
      · simp [exs_one]
        rw [sl_l, cut_init]
        simp
        have hj1 : ∃ j', j = j' + 1 := by
          rcases ht.tm.form with ⟨s, rfl⟩ | ⟨d', w, ps, e, _⟩
          · simp [isiD] at hi
          · exact ⟨d', e⟩
        obtain ⟨j', rfl⟩ := hj1
        refine lcGo_map (fun x => .tuple [.str (Str.ofString "not"), x]) _ (by unfold LINE; omega) (fun x hx => ?_) ?_
        · simp [lcBody_wp, tgSet, wipeE]
        · simp
          refine ⟨by unfold LINE; omega, _, by simp; omega, by simp; omega, ?_, rfl, rfl⟩
          intro x hx
          simp only [List.mem_append, List.mem_cons, List.not_mem_nil, or_false] at hx
          have hx' : x ∈ L ++ [t] ∨ x ∈ L.map fun x => PyData.tuple [.str (Str.ofString "not"), x] := by simpa [or_assoc] using hx
          rcases hx' with hx | hx
          · exact hLt x hx
          · obtain ⟨y, hy, rfl⟩ := List.mem_map.mp hx
            obtain ⟨w, rfl, hw, hwx⟩ := hL2 y hy
            exact word_mate (j := j') (q := q) 1 (by decide +kernel) (by decide +kernel) (fun p hp => by simp at hp; subst hp; exact name_mate h.ok j' hw hwx) rfl (by decide) (by rcases hq' with rfl | rfl <;> decide +kernel)
      · exact ⟨L ++ [t], by simp, by simp; omega, hLt, rfl, rfl⟩
    rintro ρ m' ⟨M, hM1, hM2, hM3, rfl, rfl⟩
    refine exs_step _ _ _ _ _ _ _ ?_
    simp
    refine take_wp k (hl _) hp (by omega) (by omega) (by omega) fun a p3 hp3 ha0 ha1 => ?_
    obtain ⟨mt, hmt, emt⟩ := atI_in (xs := M) ha0 ha1
    simp [emt]
    refine exs_step _ _ _ _ _ _ _ ?_
    have hi3 : ∃ b, atI [PyData.int 3, .int 6] (q - 1) = some (.int b) ∧ 0 < b ∧ b ≤ 6 ∧ (q = 1 → b = 3) := by
      rcases hq' with rfl | rfl
      · exact ⟨3, rfl, by decide, by decide, fun _ => rfl⟩
      · exact ⟨6, rfl, by decide, by decide, fun e => by cases e⟩
    obtain ⟨b, eb, hb0, hb6, hb3⟩ := hi3
    simp [eb]
    refine take_wp k (hl _) hp3 (by omega) hb0 (by omega) fun way p4 hp4 hw0 hw1 => ?_
    simp
    refine exs_step _ _ _ _ _ _ _ ?_
    simp
    refine take_wp k (hl _) hp4 (by omega) (by decide) (by decide) fun c p5 hp5 hc0 hc1 => ?_
    have hm' := hM3 mt hmt
    obtain ⟨pr, hpr, epr⟩ := atI_in (xs := [PyData.tuple [t, mt], .tuple [mt, t]]) hc0 (by simpa using hc1)
    have hpair : ∃ u v, pr = .tuple [u, v] ∧ MateOk xs j q u ∧ MateOk xs j q v := by
      simp at hpr
      rcases hpr with rfl | rfl
      · exact ⟨t, mt, rfl, ht, hm'⟩
      · exact ⟨mt, t, rfl, hm', ht⟩
    obtain ⟨u, v, rfl, hu, hv⟩ := hpair
    simp [epr]
    refine exs_step _ _ _ _ _ _ _ ?_
    simp
    refine ⟨by unfold LINE; omega, ?_⟩
    refine exs_step _ _ _ _ _ _ _ ?_
    simp
    refine ⟨by unfold LINE; omega, ?_⟩
    obtain ⟨t', ht', et⟩ := atI_in (xs := [PyData.tuple [.str (Str.ofString "not"), t], .tuple [.str (Str.ofString "both"), u, v], .tuple [.str (Str.ofString "either"), u, v], .tuple [.str (Str.ofString "chain"), u, v], .tuple [.str (Str.ofString "turned"), t], .tuple [.str (Str.ofString "some"), t]]) hw0 (by simp; omega)
    have hmate : MateOk xs (j + 1) (q - if way = 5 then 1 else 0) t' := by
      have one : ∀ p ∈ [t], MateOk xs j q p := fun p hp => by simp at hp; subst hp; exact ht
      have two : ∀ p ∈ [u, v], MateOk xs j q p := fun p hp => by simp at hp; rcases hp with rfl | rfl <;> assumption
      have hw : way = 0 ∨ way = 1 ∨ way = 2 ∨ (q = 2 ∧ (way = 3 ∨ way = 4 ∨ way = 5)) := by
        rcases hq' with e | e
        · have := hb3 e; omega
        · omega
      rcases hw with rfl | rfl | rfl | ⟨rfl, rfl | rfl | rfl⟩ <;> simp [atI, ixN] at et <;> subst et
      · exact word_mate 1 (by decide +kernel) (by decide +kernel) one rfl (by decide) (by rcases hq' with rfl | rfl <;> decide +kernel)
      · exact word_mate 2 (by decide +kernel) (by decide +kernel) two rfl (by decide) (by rcases hq' with rfl | rfl <;> decide +kernel)
      · exact word_mate 2 (by decide +kernel) (by decide +kernel) two rfl (by decide) (by rcases hq' with rfl | rfl <;> decide +kernel)
      · exact word_mate 2 (by decide +kernel) (by decide +kernel) two rfl (by decide) (by decide +kernel)
      · exact word_mate 1 (by decide +kernel) (by decide +kernel) one rfl (by decide) (by decide +kernel)
      · exact word_mate 1 (by decide +kernel) (by decide +kernel) one rfl (by decide) (by decide +kernel)
    simp [et]
    simp [exs_one]
    refine ⟨t', _, _, _, _, _, _, _, _, _, p5, rfl, rfl, hp5.mono (by omega), ?_, hmate⟩
    rcases hq' with rfl | rfl
    · have := hb3 rfl
      rw [if_neg (by omega)]; left; rfl
    · split
      · left; rfl
      · right; rfl
  · rintro ρ m' ⟨t, q, o5, o6, o7, o8, o9, o10, o11, o12, p, rfl, rfl, hp, hq', ht⟩
    simp only [List.length_map, List.length_range, Nat.zero_add] at hp ht
    simp [exs_one]
    have hj3 : a.toNat ≤ 3 := by omega
    have up : ∀ i j, i ≤ j → MateOk xs i q t → MateOk xs j q t := fun i j hij => by
      induction j with
      | zero => intro h; rwa [show i = 0 by omega] at h
      | succ j ih =>
        by_cases e : i = j + 1
        · subst e; exact fun h => h
        · intro h
          have h2 := ih (by omega) h
          exact ⟨h2.tm.up, h2.tame.mono (Nat.le_refl _) (wj_mono j) (by omega), by rw [plc_up _ _ (by rw [h2.pl]; omega), h2.pl]⟩
    rw [List.take_of_length_le (by simp)]
    exact hq t q p (hp.mono (by omega)) (up _ _ hj3 ht) hq'
end K04
end Lo
/-! Fields drawn. -/
namespace Lo
open PySem
/-- the turns of a while: each lessens -/
theorem whileGo_inv {test : En → Mem → R Bool} {body : En → Mem → RS} (I : Nat → En → Mem → Prop) {Q : Fl → En → Mem → Prop} {E : Nat → En → Mem → Prop}
    (hb : ∀ n ρ m, I n ρ m → (test ρ m).wp (fun b m => (b = true → (body ρ m).wp (fun f ρ m => match f with | .nx => ∃ n', n' < n ∧ I n' ρ m | .cnt => ∃ n', n' < n ∧ I n' ρ m | .brk => Q .nx ρ m | .ret w => Q (.ret w) ρ m) E) ∧ (b = false → Q .nx ρ m)) (fun c m => E c ρ m)) :
    ∀ (k n : Nat), n < k → ∀ ρ m, I n ρ m → (whileGo test body k ρ m).wp Q E := by
  intro k
  induction k with
  | zero => intro n h; omega
  | succ k ih =>
    intro n hn ρ m hi
    have h0 := hb n ρ m hi
    simp only [whileGo, swp_then]
    refine R.wp_mono h0 ?_ (fun _ _ h => h)
    rintro b m' ⟨h1, h2⟩
    cases b with
    | false => simpa using h2 rfl
    | true =>
      have h3 := h1 rfl
      rw [if_pos rfl]
      cases e : body ρ m' with
      | ok f ρ2 m2 =>
        rw [e, swp_ok] at h3
        cases f with
        | nx => obtain ⟨n', a, b⟩ := h3; with_unfolding_all exact ih n' (by omega) _ _ b
        | cnt => obtain ⟨n', a, b⟩ := h3; with_unfolding_all exact ih n' (by omega) _ _ b
        | brk => with_unfolding_all exact h3
        | ret w => with_unfolding_all exact h3
      | exc c ρ2 m2 => rw [e, swp_exc] at h3; with_unfolding_all exact h3
      | bad => rw [e, swp_bad] at h3; exact h3.elim
@[simp] theorem ex_while (F : Cs) (Q : Fl → En → Mem → Prop) (E : Nat → En → Mem → Prop) (ρ : En) (m : Mem) (c : Ex) (body : List Sm) : (ex F (.while c body) ρ m).wp Q E = (whileGo (fun ρ m => (ev F c ρ m).bind fun w m => .of m (truth m w)) (exs F body) F.turns ρ m).wp Q E := by simp only [ex]
theorem tup_ref {m : Mem} {n : Nat} {ys : List PyData} (h : m[n]? = some (.lst ys)) : biW .tup [.ref n] m = some (.d (.tuple ys)) := by
  have e : listR m (.ref n) = some ys := by simp only [listR, listOf, h]
  simp only [biW, e]; try rfl
theorem cnt_one (D : List (PyData × PyData)) (L : List PyData) : (L.map fun t => (1 : Int).toNat ^ (plc D 3 t).toNat).sum = L.length := by
  induction L with
  | nil => rfl
  | cons a r ih => simp only [List.map_cons, List.sum_cons, ih, List.length_cons]; simp; omega
namespace K04
structure Fd (xs ts : List PyData) (i top : Int) : Prop where
  nt : Ntns xs
  len : 1 ≤ ts.length ∧ ts.length ≤ 4
  mates : ∀ t ∈ ts, ∃ q, (q = 1 ∨ q = 2) ∧ MateOk xs 3 q t
  nd : ts.Nodup
  i1 : 1 ≤ i ∧ i ≤ 3
  c1 : (cnt (ntD xs) i ts : Int) ≤ top
  c0 : cnt (ntD xs) i (byTextsF 3 (allL xs ts)) ≤ 40
theorem MateOk.ne {xs : List PyData} {j : Nat} {q : Int} {t : PyData} (h : MateOk xs j q t) (hq : q = 1 ∨ q = 2) : plc (ntD xs) j t ≠ 0 := by rw [h.pl]; omega
theorem MateOk.w {xs : List PyData} {q : Int} {t : PyData} (h : MateOk xs 3 q t) : t.weight ≤ 200000 := Nat.le_trans h.tame.wt (by decide)
theorem Fd.ok {xs ts : List PyData} {i top : Int} (h : Fd xs ts i top) (ht : top ≤ 10) : isField (.tuple [.tuple xs, .tuple ts, .int i]) = true := by
  have hv : ∀ t ∈ ts, plc (ntD xs) 3 t ≠ 0 := fun t ht => by obtain ⟨q, hq, hm⟩ := h.mates t ht; exact hm.ne hq
  have hvt : ∀ y ∈ ts, Vt 3 y := fun y hy => plc_vt h.nt.ok 3 y (hv y hy)
  have h1 := h.len
  have h2 := h.i1
  have h3 := h.c1
  have h4 := h.c0
  simp only [isField, areShown, fieldC, isWithin, Bool.and_eq_true, decide_eq_true_eq, List.all_eq_true]
  exact ⟨⟨⟨h.nt.ok, ⟨⟨⟨h1.1, h1.2⟩, hv⟩, (byTexts_len hvt).mpr h.nd⟩⟩, by simpa using h2⟩, ⟨by omega, h4⟩⟩
def WhI (n : Nat) (m : Mem) (B top : Int) (xs : List PyData) (t : PyData) (q : Int) (c : Nat) (ρ : En) (m' : Mem) : Prop := ∃ p, c ≤ 2 ∧ ρ = [some (.ref n), some (.d (.int top)), some (.d (.tuple xs)), some (.d t), some (.d (.int q)), some (.d (.int ((c : Int) + 1))), none, none, none, none] ∧ m' = m.set n (poolM p) ∧ PGood B p
def WhR (n : Nat) (m : Mem) (B top : Int) (xs : List PyData) (t : PyData) (q : Int) (ρ : En) (m' : Mem) : Prop := ∃ p i, 1 ≤ i ∧ i ≤ 3 ∧ Fd xs [t] i top ∧ ρ = [some (.ref n), some (.d (.int top)), some (.d (.tuple xs)), some (.d t), some (.d (.int q)), some (.d (.int i)), none, none, none, none] ∧ m' = m.set n (poolM p) ∧ PGood B p
def FdI (n : Nat) (m : Mem) (B top : Int) (xs : List PyData) (i : Int) (j : Nat) (ρ : En) (m' : Mem) : Prop := ∃ p ts o3 o4 o7 o8 o9, ts.length ≤ j + 1 ∧ Fd xs ts i top ∧ ρ = [some (.ref n), some (.d (.int top)), some (.d (.tuple xs)), o3, o4, some (.d (.int i)), some (.ref m.length), o7, o8, o9] ∧ m' = m.set n (poolM p) ++ [.lst ts] ∧ PGood (B + 22 * j) p
theorem atoms_len {xs ts : List PyData} {i top : Int} (hx : Ntns xs) (hl : ts.length ≤ 4) (hm : ∀ t ∈ ts, ∃ q, (q = 1 ∨ q = 2) ∧ MateOk xs 3 q t) (hn : ts.Nodup) (h1 : 1 ≤ i) (h3 : i ≤ 3) (k : Nat) (m : Mem) :
    (∃ A, callF P (k + 7) i__law_atoms [.d (.tuple [.tuple xs, .tuple ts, .int i]), .d (.int 1)] m = .ok (.new A) m ∧ A.length = cnt (ntD xs) i ts) ∧ ∃ A, callF P (k + 7) i__law_atoms [.d (.tuple [.tuple xs, .tuple ts, .int i]), .d (.int 0)] m = .ok (.new A) m ∧ A.length = cnt (ntD xs) i (byTextsF 3 (allL xs ts)) := by
  have hv : ∀ t ∈ ts, plc (ntD xs) 3 t ≠ 0 := fun t ht => by obtain ⟨q, hq, hm⟩ := hm t ht; exact hm.ne hq
  have hw : ∀ t ∈ ts, t.weight ≤ 200000 := fun t ht => by obtain ⟨q, hq, hm⟩ := hm t ht; exact hm.w
  obtain ⟨A1, e1, l1⟩ := law_atoms_eq hx.ok hv hl hw i h1 h3 1 k m
  obtain ⟨A0, e0, l0⟩ := law_atoms_eq hx.ok hv hl hw i h1 h3 0 k m
  exact ⟨⟨A1, e1, by rw [l1, (fieldC_eq hx.ok hv hn i).2]⟩, ⟨A0, e0, by rw [l0, (fieldC_eq hx.ok hv hn i).1]⟩⟩
theorem field_wp (k : Nat) {m : Mem} {n : Nat} {p : Pool} (hm : m[n]? = some (poolM p)) {B : Int} (hp : PGood B p) (hB : B + 200 < 10000000) (top : Int) (ht1 : 1 ≤ top) {Q : W → Mem → Prop} {E : Nat → Mem → Prop}
    (hq : ∀ xs ts i p', PGood (B + 150) p' → Fd xs ts i top → Q (.d (.tuple [.tuple xs, .tuple ts, .int i])) (m.set n (poolM p'))) : (callF P (k + 8) i__law_field [.ref n, .d (.int top)] m).wp Q E := by
  refine callF_wp P (k + 7) _ _ m (f := f__law_field) rfl rfl ?_
  have hn : n < m.length := (List.getElem?_eq_some_iff.mp hm).1
  have hl : ∀ p, (m.set n (poolM p))[n]? = some (poolM p) := fun p => by simp [hn]
  have hl2 : ∀ p c, (m.set n (poolM p) ++ [c])[n]? = some (poolM p) := fun p c => by rw [get_app (by simpa using hn)]; exact hl p
  have hs2 : ∀ p p' c, (m.set n (poolM p) ++ [c]).set n (poolM p') = m.set n (poolM p') ++ [c] := fun p p' c => by rw [set_app (by simpa using hn)]; simp
  have hg2 : ∀ p c, (m.set n (poolM p) ++ [c])[m.length]? = some c := fun p c => by
    have := get_last (m.set n (poolM p)) c
    rwa [List.length_set] at this
  unfold f__law_field b__law_field
  refine exs_step _ _ _ _ _ _ _ ?_
  simp
  refine notions_wp (k + 4) hm hp (by omega) fun xs p1 hp1 hxs => ?_
  simp
  refine exs_step _ _ _ _ _ _ _ ?_
  simp
  refine term_wp (k + 5) (hl _) hp1 (by omega) hxs 3 (by omega) fun t q p2 hp2 hmt hq' => ?_
  simp [tgSet]
  refine exs_step _ _ _ _ _ _ _ ?_
  simp
  refine take_wp (k + 6) (hl _) hp2 (by omega) (by decide) (by decide) fun d p3 hp3 hd0 hd1 => ?_
  simp
  have hmates : ∀ t' ∈ [t], ∃ q, (q = 1 ∨ q = 2) ∧ MateOk xs 3 q t' := fun t' h => by simp at h; subst h; exact ⟨q, hq', hmt⟩
  have c1 : ∀ i, cnt (ntD xs) i [t] = i.toNat ^ q.toNat := fun i => by simp [cnt, hmt.pl]
  refine exs_mid (WhR n m (B + 80) top xs t q) ?_ ?_
  · simp
    refine whileGo_inv (WhI n m (B + 80) top xs t q) ?_ 5000 d.toNat (by omega) _ _ ⟨p3, by omega, ?_, rfl, hp3.mono (by omega)⟩
    · rintro c ρ m' ⟨p, hc, rfl, rfl, hpp⟩
      obtain ⟨A, eA, lA⟩ := law_rows_eq (k + 6) (c + 1) q.toNat (m.set n (poolM p)) (by omega) (by omega) ((c : Int) + 1) q (by omega) (by omega)
      obtain ⟨_, A0, e0, l0⟩ := atoms_len (i := (c : Int) + 1) (top := top) hxs (by simp) hmates (by simp) (by omega) (by omega) k (m.set n (poolM p))
      simp [eA, lA, e0, l0]
      have zero : c = 0 → (((c : Int) + 1) ^ q.toNat = 1 ∧ cnt (ntD xs) ((c : Int) + 1) (byTextsF 3 (allL xs [t])) ≤ 40) := fun h => by
        subst h
        refine ⟨by simp [Int.one_pow], ?_⟩
        have e1 : cnt (ntD xs) ((0 : Nat) + 1 : Int) (byTextsF 3 (allL xs [t])) = (byTextsF 3 (allL xs [t])).length := by
          unfold cnt
          exact cnt_one _ _
        rw [e1]
        have h1 := byTextsF_len 3 (allL xs [t])
        have h2 := (plc_tm (ntDict hxs.ok).ok 3 t (hmt.ne hq')).2
        have h3 := hxs.2.1
        have h4 : (allL xs [t]).length = xs.length + (partsF 3 t).length := by simp [allL]
        omega
      refine ⟨fun h => ?_, fun h => ⟨fun h2 => ?_, fun h2 => ?_⟩⟩
      · have : c ≠ 0 := fun e => by have := (zero e).1; omega
        simp [exs_one]
        exact ⟨c - 1, by omega, p, by omega, by rw [show ((c - 1 : Nat) : Int) + 1 = c by omega], rfl, hpp⟩
      · have : c ≠ 0 := fun e => by have := (zero e).2; omega
        simp [exs_one]
        exact ⟨c - 1, by omega, p, by omega, by rw [show ((c - 1 : Nat) : Int) + 1 = c by omega], rfl, hpp⟩
      · refine ⟨p, (c : Int) + 1, by omega, by omega, ⟨hxs, by simp, hmates, by simp, by omega, ?_, by omega⟩, rfl, rfl, hpp⟩
        rw [c1, Int.natCast_pow]
        rwa [show (((c : Int) + 1).toNat : Int) = c + 1 by omega]
    · rw [show ((d.toNat : Nat) : Int) + 1 = 1 + d by omega]
  rintro ρ m' ⟨p4, i, hi1, hi3, hfd, rfl, rfl, hp4⟩
  refine exs_step _ _ _ _ _ _ _ ?_
  simp
  refine exs_mid (FdI n m (B + 81) top xs i 3) ?_ ?_
  · simp
    refine take_wp (k + 6) (hl2 _ _) hp4 (by omega) (by decide) (by decide) fun a p5 hp5 ha0 ha1 => ?_
    rw [hs2]
    simp [rng1 a ha0 (by omega)]
    refine forGo_inv (FdI n m (B + 81) top xs i) _ 0 _ _ ⟨p5, [t], _, _, _, _, _, by simp, hfd, rfl, rfl, hp5.mono (by omega)⟩ ?_ ?_
    · rintro j x ρ m' hx ⟨p, ts, o3, o4, o7, o8, o9, hlt, hf, rfl, rfl, hpp⟩
      obtain ⟨hj, rfl⟩ := rng_mem hx
      rw [Nat.zero_add] at *
      simp only [tgSet, OS_some, List.set_cons_succ, List.set_cons_zero]
      refine exs_step _ _ _ _ _ _ _ ?_
      simp
      refine take_wp (k + 6) (hl2 _ _) hpp (by omega) (by decide) (by decide) fun b p6 hp6 hb0 hb1 => ?_
      rw [hs2]
      obtain ⟨b', rfl⟩ : ∃ b' : Nat, b = b' := ⟨b.toNat, by omega⟩
      simp
      rw [show (1 + (b' : Int)) = ((1 + b' : Nat) : Int) by omega]
      refine term_wp (k + 5) (hl2 _ _) hp6 (by omega) hxs (1 + b') (by omega) fun u r p7 hp7 hmu hr => ?_
      rw [hs2]
      simp [tgSet]
      refine exs_step _ _ _ _ _ _ _ ?_
      simp
      rw [add_rn _ (hg2 _ _)]
      have htl := hf.len.2
      simp [tup_new]
      refine ⟨by unfold LINE; omega, ?_⟩
      rw [exs_one]
      have hvt : ∀ y ∈ ts, Vt 3 y := fun y hy => by obtain ⟨q', hq', hm'⟩ := hf.mates y hy; exact plc_vt hxs.ok 3 y (hm'.ne hq')
      obtain ⟨hio, hin⟩ := inO_vt (plc_vt hxs.ok 3 u (hmu.ne hr)) hvt
      simp [nin_ref _ (hg2 _ _), hio]
      have keep : FdI n m (B + 81) top xs i (j + 1) [some (W.ref n), some (W.d (PyData.int top)), some (W.d (PyData.tuple xs)), o3, some (W.d (PyData.int r)),
                some (W.d (PyData.int i)), some (W.ref (List.length m)), some (W.d (PyData.int ↑j)), some (W.d u),
                some (W.d (PyData.tuple [PyData.tuple xs, PyData.tuple (ts ++ [u]), PyData.int i]))] (List.set m n (poolM p7) ++ [MO.lst ts]) := ⟨p7, ts, _, _, _, _, _, by omega, hf, rfl, rfl, hp7.mono (by omega)⟩
      refine ⟨fun hni => ?_, fun _ => keep⟩
      have hni : u ∉ ts := fun h => by rw [hin.mpr h] at hni; cases hni
      have hnd : (ts ++ [u]).Nodup := by
        rw [List.nodup_append]
        exact ⟨hf.nd, by simp, fun a ha b hb e => by simp at hb; subst hb; subst e; exact hni ha⟩
      have hms : ∀ t ∈ ts ++ [u], ∃ q, (q = 1 ∨ q = 2) ∧ MateOk xs 3 q t := fun t ht => by
        rcases List.mem_append.mp ht with ht | ht
        · exact hf.mates t ht
        · simp at ht; subst ht; exact ⟨r, hr, hmu⟩
      obtain ⟨⟨A1, e1, l1⟩, A0, e0, l0⟩ := atoms_len (i := i) (top := top) hxs (by simp; omega) hms hnd hi1 hi3 k (m.set n (poolM p7) ++ [.lst ts])
      simp [e1, e0, l1, l0]
      refine ⟨fun h1 => ⟨fun h0 => ?_, fun _ => keep⟩, fun _ => keep⟩
      rw [exs_one]
      have happ : (m.set n (poolM p7) ++ [MO.lst ts]).set m.length (.lst (ts ++ [u])) = m.set n (poolM p7) ++ [.lst (ts ++ [u])] := by
        have := set_last (m.set n (poolM p7)) (.lst ts) (.lst (ts ++ [u]))
        rwa [List.length_set] at this
      simp [recv_append (hg2 _ _), append_wp u (hg2 _ _) (by unfold LINE; omega : ts.length < LINE), happ]
      exact ⟨p7, ts ++ [u], _, _, _, _, _, by simp; omega, ⟨hxs, by simp; omega, hms, hnd, ⟨hi1, hi3⟩, h1, by omega⟩, rfl, rfl, hp7.mono (by omega)⟩
    · rintro ρ m' ⟨p, ts, o3, o4, o7, o8, o9, hlt, hf, rfl, rfl, hpp⟩
      refine ⟨rfl, p, ts, o3, o4, o7, o8, o9, by have := hf.len; omega, hf, rfl, rfl, ?_⟩
      simp at hpp
      exact hpp.mono (by omega)
  rintro ρ m' ⟨p, ts, o3, o4, o7, o8, o9, hlt, hf, rfl, rfl, hpp⟩
  simp [exs_one, tup_ref (hg2 _ _)]
  exact hq xs ts i p (hpp.mono (by omega)) hf
end K04
end Lo
/-! Fields: refused, right. -/
namespace Lo
open PySem
namespace K04
theorem told_no (x o : PyData) (hw : x.weight ≤ 200000) (hx : isField x = false) (k : Nat) (w : Int) (m : Mem) : callF P (k + 12) i__law_told [.d (.int w), .d x, .d o] m = .exc 3 m := by
  refine R.exc_of_wp (callF_wp P (k + 11) _ _ m (f := f__law_told) rfl rfl ?_)
  simp [f__law_told, b__law_told, w_exs_cons, terms_of_no x hw hx, atoms_of_no x _ hw hx, is_atom_no x o _ hw hx, place_of_no x o hw hx]
theorem refused_eq (x o : PyData) (hw : x.weight ≤ 200000) (hx : isField x = false) (k : Nat) (w : Int) (m : Mem) : callF P (k + 13) i__law_refused [.d (.int w), .d x, .d o] m = .ok (.d (.bool true)) m := by
  refine R.eq_of_wp (callF_wp P (k + 12) _ _ m (f := f__law_refused) rfl rfl ?_)
  have s1 : subOf sb 3 [0] = some true := rfl
  have s2 : subOf sb 3 [3] = some true := rfl
  have s3 : subOf sb 3 [4, 1, 2] = some false := rfl
  unfold f__law_refused b__law_refused
  refine exs_step _ _ _ _ _ _ _ ?_
  simp [w_exs_cons, told_no x o hw hx, s1]
  refine quit_wp _ _ _ _ ?_
  simp [w_exs_cons, isi_exc, clsL, s2, s3]
def RtI (n : Nat) (x : PyData) (s : Str) (M : Mem) (ρ : En) (m' : Mem) : Prop := ∃ o4 o5 o6, ρ = [some (.ref n), some (.d x), some (.d (.str s)), some (.d (.bool (isField x))), o4, o5, o6] ∧ m' = M
theorem right_wp (k : Nat) {m : Mem} {n : Nat} {p : Pool} (hm : m[n]? = some (poolM p)) {B : Int} (hp : PGood B p) (hB : B + 10 < 10000000) (x : PyData) {I N D : Nat} (ht : Tame I N D x) (hI : I < 10 ^ 45) (hN : N ≤ 200000) (hD : D ≤ 64) {Q : W → Mem → Prop} {E : Nat → Mem → Prop}
    (hq : ∀ p', PGood (B + 4) p' → Q (.d (.bool true)) (m.set n (poolM p'))) : (callF P (k + 14) i__law_right [.ref n, .d x] m).wp Q E := by
  refine callF_wp P (k + 13) _ _ m (f := f__law_right) rfl rfl ?_
  have hn : n < m.length := (List.getElem?_eq_some_iff.mp hm).1
  have hl : ∀ p, (m.set n (poolM p))[n]? = some (poolM p) := fun p => by simp [hn]
  have hw : x.weight ≤ 200000 := Nat.le_trans ht.wt hN
  have hrep : ∀ m, biW .repr [.d x] m = some (.d (.str x.shown)) := fun m => by
    have := ht.show_ok hI hN hD
    show (if x.showable && decide (x.depth ≤ 64) && decide (x.shown.length ≤ LINE) then some (W.d (.str x.shown)) else none) = _
    rw [if_pos this]
  unfold f__law_right b__law_right
  refine exs_step _ _ _ _ _ _ _ ?_
  simp [hrep]
  refine exs_step _ _ _ _ _ _ _ ?_
  have e1 := law_is_field_eq x hw (k + 4)
  have e2 := is_field_eq x hw (k + 4)
  simp [e1]
  refine exs_mid (RtI n x x.shown m) ?_ ?_
  · simp [rng1 2 (by decide) (by decide)]
    refine forGo_inv (fun _ => RtI n x x.shown m) _ 0 _ _ ⟨_, _, _, rfl, rfl⟩ ?_ ?_
    · rintro i y ρ m' _ ⟨o4, o5, o6, rfl, rfl⟩
      simp only [tgSet, OS_some, List.set_cons_succ, List.set_cons_zero]
      refine exs_step _ _ _ _ _ _ _ ?_
      simp [e2]
      simp [exs_one, isiD]
      exact ⟨_, _, _, rfl, rfl⟩
    · rintro ρ m' h
      exact ⟨rfl, h⟩
  rintro ρ m' ⟨o4, o5, o6, rfl, rfl⟩
  refine exs_step _ _ _ _ _ _ _ ?_
  simp
  refine odd_wp (k + 11) hm hp (by omega) fun odd p1 hp1 hodd => ?_
  simp
  refine take_wp (k + 12) (hl _) hp1 (by omega) (by decide) (by decide) fun a p2 hp2 ha0 ha1 => ?_
  obtain ⟨o, ho, eo⟩ := atI_in (xs := [PyData.tuple [.str "a", .tuple [.int 0]], .none, odd]) ha0 (by simpa using ha1)
  simp [eo]
  refine exs_step _ _ _ _ _ _ _ ?_
  cases hf : isField x with
  | true => 
    simp
    simp [exs_one, hrep]
    rw [List.take_of_length_le (by simp)]
    exact hq p2 (hp2.mono (by omega))
  | false =>
    simp
    refine take_wp (k + 12) (hl _) hp2 (by omega) (by decide) (by decide) fun b p3 hp3 hb0 hb1 => ?_
    simp [refused_eq x o hw hf k b, exs_one, hrep]
    rw [List.take_of_length_le (by simp)]
    exact hq p3 (hp3.mono (by omega))
end K04
end Lo
/-! Fields at their bounds, rough ones. -/
namespace Lo
open PySem
@[simp] theorem tup_l (m : Mem) (xs : List PyData) : biW .tup [.d (.list xs)] m = some (.d (.tuple xs)) := id rfl
theorem TL.of_all {I N D : Nat} : ∀ {xs : List PyData}, (∀ x ∈ xs, Tame I N D x) → TL I ((N + 1) * xs.length) D xs
  | [], _ => TL.nil _ _ _
  | x :: xs, h => (TL.cons (h x (by simp)) (TL.of_all fun y hy => h y (by simp [hy]))).mono (Nat.le_refl _) (by rw [List.length_cons, Nat.mul_add]; omega) (Nat.le_refl _)
namespace K04
theorem Fd.tl {xs ts : List PyData} {i top : Int} (h : Fd xs ts i top) : TL (10 ^ 39) 1764 3 ts := by
  have h1 : TL (10 ^ 39) (441 * ts.length) 3 ts := TL.of_all fun t ht => by
    obtain ⟨q, _, hm⟩ := h.mates t ht
    exact hm.tame
  have h2 := h.len.2
  exact h1.mono (Nat.le_refl _) (by omega) (Nat.le_refl _)
theorem fd_tame {xs us : List PyData} {i : Int} {N : Nat} (hx : Ntns xs) (hu : TL (10 ^ 39) N 3 us) (h0 : 0 ≤ i) (h4 : i ≤ 4) : Tame (10 ^ 39) (N + 700) 5 (.tuple [.tuple xs, .tuple us, .int i]) :=
  (TL.cons (hx.tl.tup.mono (Nat.le_refl _) (Nat.le_refl _) (by omega : _ ≤ 4)) (TL.cons hu.tup (TL.one (Tame.int (i := i) (I := 10 ^ 39) (by omega) (by decide +kernel) 4 (Nat.le_refl 150))))).tup.mono (Nat.le_refl _) (by omega) (by omega)
theorem Fd.tame {xs ts : List PyData} {i top : Int} (h : Fd xs ts i top) : Tame (10 ^ 39) 2464 5 (.tuple [.tuple xs, .tuple ts, .int i]) := fd_tame h.nt h.tl (by have := h.i1; omega) (by have := h.i1; omega)
theorem rough_wp (k : Nat) {m : Mem} {n : Nat} {p : Pool} (hm : m[n]? = some (poolM p)) {B : Int} (hp : PGood B p) (hB : B + 200 < 10000000) {Q : W → Mem → Prop} {E : Nat → Mem → Prop}
    (hq : ∀ y p', PGood (B + 155) p' → Tame (10 ^ 39) 2905 5 y → Q (.d y) (m.set n (poolM p'))) : (callF P (k + 4) i__law_rough [.ref n] m).wp Q E := by
  refine callF_wp P (k + 3) _ _ m (f := f__law_rough) rfl rfl ?_
  have hn : n < m.length := (List.getElem?_eq_some_iff.mp hm).1
  have hl : ∀ p, (m.set n (poolM p))[n]? = some (poolM p) := fun p => by simp [hn]
  unfold f__law_rough b__law_rough
  refine exs_step _ _ _ _ _ _ _ ?_
  simp
  refine notions_wp k hm hp (by omega) fun xs p1 hp1 hxs => ?_
  simp
  refine exs_step _ _ _ _ _ _ _ ?_
  simp
  refine take_wp (k + 2) (hl _) hp1 (by omega) (by decide) (by decide) fun a p2 hp2 ha0 ha1 => ?_
  simp [rng1 (1 + a) (by omega) (by omega)]
  refine lcGo_inv (fun j acc m' => ∃ p, acc.length = j ∧ (∀ x ∈ acc, Tame (10 ^ 39) 440 3 x) ∧ m' = m.set n (poolM p) ∧ PGood (B + 51 + 20 * j) p) _ 0 [] _ ⟨p2, rfl, by simp, rfl, hp2.mono (by omega)⟩ ?_ ?_
  · rintro j x acc m' hx ⟨p, hl1, hall, rfl, hpp⟩
    rw [Nat.zero_add] at *
    obtain ⟨hj, rfl⟩ := rng_mem hx
    simp [lcBody_wp, tgSet, wipeE]
    refine term_wp (k + 1) (hl _) hpp (by omega) hxs 3 (by omega) fun t q p3 hp3 ht hq' => ?_
    have e0 : atI [t, PyData.int q] 0 = some t := by simp [atI, ixN]
    have hadd : ∀ y, addL y acc = some (acc ++ [y]) := fun y => by unfold addL; rw [if_pos (by unfold LINE; omega)]
    simp [e0, hadd]
    refine ⟨by omega, fun x hx => ?_, p3, rfl, hp3.mono (by omega)⟩
    rcases hx with hx | rfl
    · exact hall x hx
    · exact ht.tame
  · rintro acc m' ⟨p, hl1, hall, rfl, hpp⟩
    simp at hl1 hpp
    refine exs_step _ _ _ _ _ _ _ ?_
    simp
    refine take_wp (k + 2) (hl _) hpp (by omega) (by decide) (by decide) fun b p3 hp3 hb0 hb1 => ?_
    obtain ⟨c, hc, ec⟩ := atI_in (xs := [PyData.int 1, .int 2, .int 3, .int 3, .int 4]) hb0 (by simpa using hb1)
    obtain ⟨c', rfl, hc1, hc4⟩ : ∃ c', c = .int c' ∧ 1 ≤ c' ∧ c' ≤ 4 := by
      simp only [List.mem_cons, List.not_mem_nil, or_false] at hc
      rcases hc with rfl | rfl | rfl | rfl | rfl <;> exact ⟨_, rfl, by decide, by decide⟩
    simp [ec]
    rw [List.take_of_length_le (by simp)]
    exact hq _ p3 (hp3.mono (by omega)) ((fd_tame hxs ((TL.of_all hall).mono (Nat.le_refl _) (by rw [show (440 + 1) * acc.length = 441 * acc.length from rfl]; omega : _ ≤ 2205) (Nat.le_refl _)) (by omega) hc4))
def EdF (m : Mem) (f n s i : PyData) (os : En) (c : Nat) (ρ : En) (m' : Mem) : Prop := ∃ M a, m' = M ++ [.lst a] ∧ ρ = some (.d f) :: some (.d n) :: some (.d s) :: some (.d i) :: some (.ref M.length) :: os ∧ M.take m.length = m ∧ m.length ≤ M.length ∧ a.length ≤ c ∧ ∀ x ∈ a, Tame (10 ^ 39) 4300 5 x
theorem EdF.step {m : Mem} {f n s i : PyData} {os : En} {c : Nat} {M : Mem} {a b : List PyData} (hM : M.take m.length = m) (hM2 : m.length ≤ M.length) (hb : b.length ≤ c) (hbt : ∀ x ∈ b, Tame (10 ^ 39) 4300 5 x) :
    EdF m f n s i os c (some (.d f) :: some (.d n) :: some (.d s) :: some (.d i) :: some (.ref (M.length + 1)) :: os) (M ++ [.lst a, .lst b]) :=
  ⟨M ++ [.lst a], b, by simp, by simp, by rw [List.take_append_of_le_length hM2, hM], by simp; omega, hb, hbt⟩
def prs : PyData := .tuple [.tuple [.str "a", .int 2], .tuple [.str "b", .int 2], .tuple [.str "c", .int 1]]
theorem edges_wp (k : Nat) {m : Mem} {xs ts : List PyData} {i top : Int} (h : Fd xs ts i top) {Q : W → Mem → Prop} {E : Nat → Mem → Prop}
    (hq : ∀ L, L.length ≤ 15 → (∀ x ∈ L, Tame (10 ^ 39) 4300 5 x) → Q (.new L) m) : (callF P (k + 1) i__law_edges [.d (.tuple [.tuple xs, .tuple ts, .int i])] m).wp Q E := by
  refine callF_wp P k _ _ m (f := f__law_edges) rfl rfl ?_
  have htl := h.tl
  have hlen := h.len
  have hi := h.i1
  unfold f__law_edges b__law_edges
  refine exs_step _ _ _ _ _ _ _ ?_
  simp [tgSet]
  refine exs_mid (EdF m (.tuple [.tuple xs, .tuple ts, .int i]) (.tuple xs) (.tuple ts) (.int i) [none, none, none, none, none] 3) ?_ ?_
  · simp
    have hcl := cut_len ts none (some 1)
    refine ⟨by unfold LINE; omega, m, _, rfl, rfl, by simp, Nat.le_refl _, by simp, fun x hx => ?_⟩
    rw [show (1 : Int) = ((1 : Nat) : Int) from rfl, cut_to] at hx
    simp only [List.mem_cons, List.not_mem_nil, or_false] at hx
    rcases hx with rfl | rfl | rfl
    · exact (fd_tame h.nt (TL.append htl (htl.take 1)) (by omega) (by omega)).mono (Nat.le_refl _) (by omega) (Nat.le_refl _)
    · exact (fd_tame h.nt (TL.nil _ 0 _) (by omega) (by omega)).mono (Nat.le_refl _) (by omega) (Nat.le_refl _)
    · exact (fd_tame h.nt (htl.take 1) (by omega) (by omega)).mono (Nat.le_refl _) (by omega) (Nat.le_refl _)
  rintro ρ m' ⟨M, a, rfl, rfl, hM, hM2, ha, hat⟩
  refine exs_step _ _ _ _ _ _ _ ?_
  simp
  refine exs_mid (EdF m (.tuple [.tuple xs, .tuple ts, .int i]) (.tuple xs) (.tuple ts) (.int i) [some (.d (prs)), none, none, none, none] 6) ?_ ?_
  · simp [add_rn _ (get_end _ _)]
    refine ⟨by unfold LINE; omega, ?_⟩
    refine EdF.step hM hM2 (by simp; omega) fun x hx => ?_
    rcases List.mem_append.mp hx with hx | hx
    · exact hat x hx
    · simp only [List.mem_cons, List.not_mem_nil, or_false] at hx
      rcases hx with rfl | rfl | rfl
      · exact (fd_tame h.nt htl (by omega) (by omega)).mono (Nat.le_refl _) (by omega) (Nat.le_refl _)
      · exact tame_of (by decide +kernel)
      · exact tame_of (by decide +kernel)
  rintro ρ m' ⟨M, a, rfl, rfl, hM, hM2, ha, hat⟩
  refine exs_mid (EdF m (.tuple [.tuple xs, .tuple ts, .int i]) (.tuple xs) (.tuple ts) (.int i) [some (.d (prs)), none, none, none, none] 7) ?_ ?_
  · simp [recv_append (get_end _ _), append_wp _ (get_end _ _) (show a.length < LINE by unfold LINE; omega)]
    refine ⟨M, _, rfl, rfl, hM, hM2, by simp; omega, fun x hx => ?_⟩
    rcases List.mem_append.mp hx with hx | hx
    · exact hat x hx
    · exact tames_of (by decide +kernel) x hx
  rintro ρ m' ⟨M, a, rfl, rfl, hM, hM2, ha, hat⟩
  refine exs_step _ _ _ _ _ _ _ ?_
  simp [tgSet]
  refine exs_step _ _ _ _ _ _ _ ?_
  simp
  refine exs_mid (EdF m (.tuple [.tuple xs, .tuple ts, .int i]) (.tuple xs) (.tuple ts) (.int i) [some (.d (prs)), some (.d (.tuple [.str "chain", .tuple [.str "chain", .str "a", .str "b"], .tuple [.str "turned", .str "a"]])), some (.d (.tuple [.str "chain", .tuple [.str "turned", .str "b"], .tuple [.str "chain", .str "b", .str "a"]])), some (.d (.tuple [.str "chain", .str "b", .str "b"])), none] 9) ?_ ?_
  · simp [add_rn _ (get_end _ _)]
    refine ⟨by unfold LINE; omega, ?_⟩
    refine EdF.step hM hM2 (by simp; omega) fun x hx => ?_
    rcases List.mem_append.mp hx with hx | hx
    · exact hat x hx
    · exact tames_of (by decide +kernel) x hx
  rintro ρ m' ⟨M, a, rfl, rfl, hM, hM2, ha, hat⟩
  refine exs_mid (EdF m (.tuple [.tuple xs, .tuple ts, .int i]) (.tuple xs) (.tuple ts) (.int i) [some (.d (prs)), some (.d (.tuple [.str "chain", .tuple [.str "chain", .str "a", .str "b"], .tuple [.str "turned", .str "a"]])), some (.d (.tuple [.str "chain", .tuple [.str "turned", .str "b"], .tuple [.str "chain", .str "b", .str "a"]])), some (.d (.tuple [.str "chain", .str "b", .str "b"])), none] 10) ?_ ?_
  · simp [recv_append (get_end _ _), append_wp _ (get_end _ _) (show a.length < LINE by unfold LINE; omega)]
    refine ⟨M, _, rfl, rfl, hM, hM2, by simp; omega, fun x hx => ?_⟩
    rcases List.mem_append.mp hx with hx | hx
    · exact hat x hx
    · exact tames_of (by decide +kernel) x hx
  rintro ρ m' ⟨M, a, rfl, rfl, hM, hM2, ha, hat⟩
  refine exs_step _ _ _ _ _ _ _ ?_
  simp
  refine exs_mid (EdF m (.tuple [.tuple xs, .tuple ts, .int i]) (.tuple xs) (.tuple ts) (.int i) [some (.d (prs)), some (.d (.tuple [.str "chain", .tuple [.str "chain", .str "a", .str "b"], .tuple [.str "turned", .str "a"]])), some (.d (.tuple [.str "chain", .tuple [.str "turned", .str "b"], .tuple [.str "chain", .str "b", .str "a"]])), some (.d (.tuple [.str "some", .tuple [.str "chain", .str "a", .str "b"]])), none] 12) ?_ ?_
  · simp [add_rn _ (get_end _ _)]
    refine ⟨by unfold LINE; omega, ?_⟩
    refine EdF.step hM hM2 (by simp; omega) fun x hx => ?_
    rcases List.mem_append.mp hx with hx | hx
    · exact hat x hx
    · exact tames_of (by decide +kernel) x hx
  rintro ρ m' ⟨M, a, rfl, rfl, hM, hM2, ha, hat⟩
  refine exs_step _ _ _ _ _ _ _ ?_
  simp
  have hps : ∀ m, slW (.d prs) (some 2) none m = some (.d (.tuple [.tuple [.str "c", .int 1]])) := fun _ => rfl
  simp [exs_one, add_rn _ (get_end _ _), hps]
  refine ⟨by unfold LINE; omega, ?_⟩
  rw [List.take_append_of_le_length hM2, hM]
  refine hq _ (by simp; omega) fun x hx => ?_
  rcases List.mem_append.mp hx with hx | hx
  · exact hat x hx
  · exact tames_of (by decide +kernel) x hx
end K04
end Lo
/-! K04: the law. -/
namespace Lo
open PySem
namespace K04
abbrev TT (x : PyData) : Prop := Tame (10 ^ 39 + 6) 12000 8 x
def OutI (script cells : List PyData) (j : Nat) (ρ : En) (m : Mem) : Prop := ∃ o2 o3 o4 o5 o6 o7 o8, ρ = [some (.ro script), some (.d (.list cells)), o2, o3, o4, o5, o6, o7, o8]
def InI (script cells : List PyData) (i : Int) (m : Mem) (F : PyData) (T : Nat → List PyData → Prop) (B : Int) (s : Int) (j : Nat) (ρ : En) (m' : Mem) : Prop := ∃ things o6 o7 o8 p, ρ = [some (.ro script), some (.d (.list cells)), some (.d (.int i)), some (.ref m.length), some (.d F), some (.d (.list things)), o6, o7, o8] ∧ m' = m ++ [poolM p] ∧ PGood (B + s * j) p ∧ T j things
theorem law_wp (k : Nat) (ns : List Int) : callF P (k + 20) i_law [.ro (ns.map .int)] [] = .ok (.d (.bool true)) [] := by
  refine R.eq_of_wp (callF_wp P (k + 19) _ _ [] (f := f_law) rfl rfl ?_)
  unfold f_law b_law
  refine exs_step _ _ _ _ _ _ _ ?_
  have hf := folded_eq (k + 18) ns 6 (by decide) (by decide) []
  simp at hf
  simp [hf]
  have hcl : (foldedL ns 6).length ≤ 16 := by simp [foldedL]; omega
  generalize foldedL ns 6 = cs at hcl
  refine exs_step _ _ _ _ _ _ _ ?_
  simp [rng1 (cs.length : Int) (by omega) (by omega)]
  refine forGo_inv (OutI (ns.map .int) (cs.map .int)) _ 0 _ _ ⟨_, _, _, _, _, _, _, rfl⟩ ?_ ?_
  · rintro i x ρ m hx ⟨o2, o3, o4, o5, o6, o7, o8, rfl⟩
    obtain ⟨hi, rfl⟩ := rng_mem hx
    rw [Nat.zero_add] at *
    simp only [tgSet, OS_some, List.set_cons_succ, List.set_cons_zero]
    obtain ⟨p0, hpe, ha0, hc0⟩ := pool_eq (k + 18) cs i m
    have hp0 : PGood 130000 p0 := ⟨ha0, by omega, by omega⟩
    have hg : ∀ p, (m ++ [poolM p])[m.length]? = some (poolM p) := fun p => by simp
    refine exs_step _ _ _ _ _ _ _ ?_
    simp [hpe]
    change RS.wp (exs _ _ [some (.ro (ns.map .int)), some (.d (.list (cs.map .int))), some (.d (.int i)), some (.ref m.length), o4, o5, o6, o7, o8] (m ++ [poolM p0])) _ _
    refine exs_step _ _ _ _ _ _ _ ?_
    simp
    refine field_wp (k + 11) (hg _) hp0 (by omega) 10 (by omega) fun xs ts fi p1 hp1 hfd => ?_
    have hft := hfd.tame
    have hfo := hfd.ok (by omega)
    generalize hF : PyData.tuple [.tuple xs, .tuple ts, .int fi] = F at hft hfo
    simp
    refine exs_mid (InI (ns.map .int) (cs.map .int) i m F (fun j things => things.length ≤ 23 ∧ ∀ x ∈ things, TT x) 140000 1 0) ?_ ?_
    · simp
      refine odd_wp (k + 17) (hg _) hp1 (by omega) fun odd p2 hp2 hodd => ?_
      simp
      rw [← hF]
      refine edges_wp (k + 18) hfd fun L hL hLt => ?_
      rw [hF]
      simp
      refine ⟨by unfold LINE; omega, ?_⟩
      simp [rng1 6 (by decide) (by decide)]
      refine lcGo_inv (fun j acc m' => ∃ p, acc.length = j ∧ (∀ x ∈ acc, TT x) ∧ m' = m ++ [poolM p] ∧ PGood (130000 + 152 + 160 * j) p) _ 0 [] _ ⟨p2, rfl, by simp, rfl, hp2.mono (by omega)⟩ ?_ ?_
      · rintro j x acc m' hx ⟨p, hl1, hall, rfl, hpp⟩
        rw [Nat.zero_add] at *
        obtain ⟨hj, rfl⟩ := rng_mem hx
        simp [lcBody_wp, tgSet, wipeE]
        refine rough_wp (k + 15) (hg _) hpp (by omega) fun y p3 hp3 hy => ?_
        have hadd : ∀ y, addL y acc = some (acc ++ [y]) := fun y => by unfold addL; rw [if_pos (by unfold LINE; omega)]
        simp [hadd]
        refine ⟨by omega, fun x hx => ?_, p3, rfl, hp3.mono (by omega)⟩
        rcases hx with hx | rfl
        · exact hall x hx
        · exact hy.mono (by omega) (by omega) (by omega)
      · rintro acc m' ⟨p, hl1, hall, rfl, hpp⟩
        simp at hl1 hpp
        refine ⟨by unfold LINE; omega, ?_⟩
        refine ⟨_, _, _, _, p, rfl, rfl, hpp.mono (by omega), by simp; omega, fun x hx => ?_⟩
        simp only [List.cons_append, List.mem_cons, List.mem_append] at hx
        rcases hx with rfl | rfl | hx | hx
        · exact hft.mono (by omega) (by omega) (by omega)
        · exact hodd.mono (by omega) (by omega) (by omega)
        · exact (hLt x hx).mono (by omega) (by omega) (by omega)
        · exact hall x hx
    rintro ρ m' ⟨things, o6, o7, o8, p, rfl, rfl, hp, hT1, hT2⟩
    refine exs_mid (InI (ns.map .int) (cs.map .int) i m F (fun j things => things.length ≤ 23 + 2 * 6 ∧ ∀ x ∈ things, TT x) 140001 100 6) ?_ ?_
    · simp [rng1 6 (by decide) (by decide)]
      refine forGo_inv (InI (ns.map .int) (cs.map .int) i m F (fun j things => things.length ≤ 23 + 2 * j ∧ ∀ x ∈ things, TT x) 140001 100) _ 0 _ _ ⟨_, _, _, _, p, rfl, rfl, hp.mono (by omega), by omega, hT2⟩ ?_ ?_
      · rintro j x ρ m' hx ⟨things, o6, o7, o8, p, rfl, rfl, hp, hT1, hT2⟩
        obtain ⟨hj, rfl⟩ := rng_mem hx
        rw [Nat.zero_add] at *
        simp only [tgSet, OS_some, List.set_cons_succ, List.set_cons_zero]
        refine exs_step _ _ _ _ _ _ _ ?_
        simp
        refine spoilt_wp 5 (k + 11) (hg _) hp (by omega) hft (Nat.le_refl _) (by decide +kernel) (by omega) fun s1 p4 hp4 hs1 => ?_
        simp [exs_one]
        refine spoilt_wp 5 (k + 11) (hg _) hp4 (by omega) hs1 (by omega) (by decide +kernel) (by omega) fun s2 p5 hp5 hs2 => ?_
        simp
        refine ⟨by unfold LINE; omega, ?_⟩
        refine ⟨_, _, _, _, p5, rfl, rfl, hp5.mono (by omega), by simp; omega, fun x hx => ?_⟩
        simp only [List.mem_append, List.mem_cons, List.not_mem_nil, or_false] at hx
        rcases hx with hx | rfl | rfl
        · exact hT2 x hx
        · exact hs1.mono (by omega) (by omega) (by omega)
        · exact hs2.mono (by omega) (by omega) (by omega)
      · rintro ρ m' h
        refine ⟨rfl, ?_⟩
        simp at h
        exact h
    rintro ρ m' ⟨things, o6, o7, o8, p, rfl, rfl, hp, hT1, hT2⟩
    refine exs_mid (InI (ns.map .int) (cs.map .int) i m F (fun j t => True) 150000 5 0) ?_ ?_
    · simp
      refine forGo_inv (InI (ns.map .int) (cs.map .int) i m F (fun j t => True) 145000 5) _ 0 _ _ ⟨_, _, _, _, p, rfl, rfl, hp.mono (by omega), trivial⟩ ?_ ?_
      · rintro j x ρ m' hx ⟨things', o6, o7, o8, p, rfl, rfl, hp, _⟩
        obtain ⟨hj, rfl⟩ := List.getElem?_eq_some_iff.mp hx
        rw [Nat.zero_add] at *
        have ht := hT2 _ (List.getElem_mem hj)
        generalize things[j] = x at ht
        simp only [tgSet, OS_some, List.set_cons_succ, List.set_cons_zero]
        simp [exs_one]
        refine right_wp (k + 5) (hg _) hp (by omega) x ht (by decide +kernel) (by decide) (by decide) fun p6 hp6 => ?_
        simp [exs_one]
        exact ⟨_, _, _, _, p6, rfl, rfl, hp6.mono (by omega), trivial⟩
      · rintro ρ m' ⟨things', o6, o7, o8, p, rfl, rfl, hp, _⟩
        refine ⟨rfl, things', o6, o7, o8, p, rfl, rfl, ?_, trivial⟩
        simp at hp
        exact hp.mono (by omega)
    rintro ρ m' ⟨things, o6, o7, o8, p, rfl, rfl, hp, _⟩
    have e := law_is_field_eq F (Nat.le_trans hft.wt (by omega)) (k + 10)
    simp [exs_one, e, hfo]
    exact ⟨_, _, _, _, _, _, _, rfl⟩
  · rintro ρ m ⟨o2, o3, o4, o5, o6, o7, o8, rfl⟩
    have hr : ∀ m, biW .repr [.d (.tuple [.int 10, .int 40])] m = some (.d (.str (Str.ofString "(10, 40)"))) := fun m => by
      have e1 : (PyData.tuple [.int 10, .int 40]).shown = Str.ofString "(10, 40)" := by decide +kernel
      have e2 : ((PyData.tuple [.int 10, .int 40]).showable && decide ((PyData.tuple [.int 10, .int 40]).depth ≤ 64) && decide ((PyData.tuple [.int 10, .int 40]).shown.length ≤ LINE)) = true := by rw [e1]; decide +kernel
      show (if (PyData.tuple [.int 10, .int 40]).showable && decide ((PyData.tuple [.int 10, .int 40]).depth ≤ 64) && decide ((PyData.tuple [.int 10, .int 40]).shown.length ≤ LINE) then some (W.d (.str (PyData.tuple [.int 10, .int 40]).shown)) else none) = _
      rw [if_pos e2, e1]
    simp [exs_one, k_MOST_SHOWN, k_MOST_ATOMS, hr]
theorem run (ns : List Int) (h1 : ns.length ≤ 63) (h2 : ∀ z ∈ ns, Builtin.Int.intBits z ≤ 1048576) : callF ⟨fns, subOf sb, turns⟩ 230 i_law [.ro (ns.map PyData.int)] [] = .ok (.d (.bool true)) [] := law_wp 210 ns
end K04
end Lo
namespace Lo
namespace K04
open PySem PySem.Spec PyProof.Rows L2
def tab : List (Str × Ent) := [(("is_within" : Str), .fn 0 3 []), (("is_notion_name" : Str), .fn 1 1 []), (("is_notion" : Str), .fn 2 1 []), (("is_notions" : Str), .fn 3 1 []), (("made_places" : Str), .fn 4 2 []), (("places_below" : Str), .fn 5 3 []), (("places_in" : Str), .fn 6 2 []), (("text_of" : Str), .fn 7 1 []), (("own_terms" : Str), .fn 8 1 []), (("all_parts" : Str), .fn 9 1 []), (("by_texts" : Str), .fn 10 1 []), (("terms_by" : Str), .fn 11 2 []), (("unknown_rows" : Str), .fn 12 2 []), (("many_atoms" : Str), .fn 13 3 []), (("are_shown" : Str), .fn 14 2 []), (("is_field" : Str), .fn 15 1 []), (("need_field" : Str), .fn 16 1 []), (("terms_in" : Str), .fn 17 1 []), (("terms_of" : Str), .fn 18 1 []), (("atoms_in" : Str), .fn 19 2 []), (("atoms_of" : Str), .fn 20 2 [(.bool false)]), (("numbers_in" : Str), .fn 21 1 []), (("is_atom_by" : Str), .fn 22 3 []), (("is_atom_in" : Str), .fn 23 3 []), (("is_atom" : Str), .fn 24 3 [(.bool false)]), (("need_atom" : Str), .fn 25 2 []), (("place_of" : Str), .fn 26 2 []), (("_law_pool" : Str), .fn 27 2 []), (("_law_take" : Str), .fn 28 2 []), (("_law_names" : Str), .fn 29 2 []), (("_law_notions" : Str), .fn 30 1 []), (("_law_term" : Str), .fn 31 3 []), (("_law_parts" : Str), .fn 32 1 []), (("_law_text" : Str), .fn 33 1 []), (("_law_width" : Str), .fn 34 2 []), (("_law_terms" : Str), .fn 35 2 []), (("_law_rows" : Str), .fn 36 2 []), (("_law_atoms" : Str), .fn 37 2 []), (("_law_field" : Str), .fn 38 2 []), (("_law_folded" : Str), .fn 39 2 []), (("_law_is_name" : Str), .fn 40 1 []), (("_law_is_from" : Str), .fn 41 3 []), (("_law_are_notions" : Str), .fn 42 1 []), (("_law_places" : Str), .fn 43 3 []), (("_law_odd" : Str), .fn 44 1 []), (("_law_spoilt" : Str), .fn 45 3 []), (("_law_rough" : Str), .fn 46 1 []), (("_law_is_field" : Str), .fn 47 1 []), (("_law_told" : Str), .fn 48 3 []), (("_law_refused" : Str), .fn 49 3 []), (("_law_edges" : Str), .fn 50 1 []), (("_law_right" : Str), .fn 51 2 []), (("law" : Str), .fn 52 1 []), (("DEEPEST" : Str), .cst k_DEEPEST), (("MADE_OF" : Str), .cd k_MADE_OF), (("MOST_ATOMS" : Str), .cst k_MOST_ATOMS), (("MOST_LETTERS" : Str), .cst k_MOST_LETTERS), (("MOST_NOTIONS" : Str), .cst k_MOST_NOTIONS), (("MOST_PLACES" : Str), .cst k_MOST_PLACES), (("MOST_SHOWN" : Str), .cst k_MOST_SHOWN), (("MOST_TERMS" : Str), .cst k_MOST_TERMS), (("MOST_UNKNOWNS" : Str), .cst k_MOST_UNKNOWNS), (("OF_TWO" : Str), .cst k_OF_TWO), (("SMALL_LETTERS" : Str), .cst k_SMALL_LETTERS), (("LoreError" : Str), .cls 0), (("NoNotions" : Str), .cls 1), (("NoTerm" : Str), .cls 2), (("NoField" : Str), .cls 3), (("NoAtom" : Str), .cls 4)]
def d_is_within (ad : Str → Addr) : Df := ⟨"is_within", ad "is_within", top 14, ["thing", "least", "greatest"], ["thing", "least", "greatest"], [], f_is_within, []⟩
def d_is_notion_name (ad : Str → Addr) : Df := ⟨"is_notion_name", ad "is_notion_name", top 15, ["thing", "sign"], ["thing"], [], f_is_notion_name, []⟩
def d_is_notion (ad : Str → Addr) : Df := ⟨"is_notion", ad "is_notion", top 16, ["thing", "name", "places"], ["thing"], [], f_is_notion, []⟩
def d_is_notions (ad : Str → Addr) : Df := ⟨"is_notions", ad "is_notions", top 17, ["thing", "one", "name", "places"], ["thing"], [], f_is_notions, []⟩
def d_made_places (ad : Str → Addr) : Df := ⟨"made_places", ad "made_places", top 18, ["word", "some"], ["word", "some"], [], f_made_places, []⟩
def d_places_below (ad : Str → Addr) : Df := ⟨"places_below", ad "places_below", top 19, ["known", "thing", "left", "word", "own", "some", "part"], ["known", "thing", "left"], [], f_places_below, []⟩
def d_places_in (ad : Str → Addr) : Df := ⟨"places_in", ad "places_in", top 20, ["notions", "term"], ["notions", "term"], [], f_places_in, []⟩
def d_text_of (ad : Str → Addr) : Df := ⟨"text_of", ad "text_of", top 21, ["term", "word", "own", "part"], ["term"], [], f_text_of, []⟩
def d_own_terms (ad : Str → Addr) : Df := ⟨"own_terms", ad "own_terms", top 22, ["term"], ["term"], [], f_own_terms, []⟩
def d_all_parts (ad : Str → Addr) : Df := ⟨"all_parts", ad "all_parts", top 23, ["term", "found", "part"], ["term"], [1], f_all_parts, []⟩
def d_by_texts (ad : Str → Addr) : Df := ⟨"by_texts", ad "by_texts", top 24, ["some", "found", "term", "text"], ["some"], [], f_by_texts, []⟩
def d_terms_by (ad : Str → Addr) : Df := ⟨"terms_by", ad "terms_by", top 30, ["notions", "some", "name", "places", "term", "part"], ["notions", "some"], [], f_terms_by, []⟩
def d_unknown_rows (ad : Str → Addr) : Df := ⟨"unknown_rows", ad "unknown_rows", top 31, ["many", "places", "found", "turn", "row", "one"], ["many", "places"], [], f_unknown_rows, []⟩
def d_many_atoms (ad : Str → Addr) : Df := ⟨"many_atoms", ad "many_atoms", top 32, ["notions", "some", "many", "term"], ["notions", "some", "many"], [], f_many_atoms, []⟩
def d_are_shown (ad : Str → Addr) : Df := ⟨"are_shown", ad "are_shown", top 33, ["notions", "thing", "term"], ["notions", "thing"], [], f_are_shown, []⟩
def d_is_field (ad : Str → Addr) : Df := ⟨"is_field", ad "is_field", top 34, ["thing", "notions", "some", "many"], ["thing"], [], f_is_field, []⟩
def d_need_field (ad : Str → Addr) : Df := ⟨"need_field", ad "need_field", top 35, ["thing"], ["thing"], [], f_need_field, []⟩
def d_terms_in (ad : Str → Addr) : Df := ⟨"terms_in", ad "terms_in", top 36, ["field", "notions", "some", "many"], ["field"], [], f_terms_in, []⟩
def d_terms_of (ad : Str → Addr) : Df := ⟨"terms_of", ad "terms_of", top 37, ["field"], ["field"], [], f_terms_of, []⟩
def d_atoms_in (ad : Str → Addr) : Df := ⟨"atoms_in", ad "atoms_in", top 38, ["field", "bare", "notions", "some", "many", "terms", "term", "row"], ["field", "bare"], [], f_atoms_in, []⟩
def d_atoms_of (ad : Str → Addr) : Df := ⟨"atoms_of", ad "atoms_of", top 39, ["field", "shown"], ["field", "shown"], [], f_atoms_of, [("shown", (.bool false))]⟩
def d_numbers_in (ad : Str → Addr) : Df := ⟨"numbers_in", ad "numbers_in", top 40, ["field", "number", "atom"], ["field"], [], f_numbers_in, []⟩
def d_is_atom_by (ad : Str → Addr) : Df := ⟨"is_atom_by", ad "is_atom_by", top 41, ["field", "terms", "thing", "term", "row", "notions", "some", "many", "one"], ["field", "terms", "thing"], [], f_is_atom_by, []⟩
def d_is_atom_in (ad : Str → Addr) : Df := ⟨"is_atom_in", ad "is_atom_in", top 42, ["field", "thing", "bare"], ["field", "thing", "bare"], [], f_is_atom_in, []⟩
def d_is_atom (ad : Str → Addr) : Df := ⟨"is_atom", ad "is_atom", top 43, ["field", "thing", "shown"], ["field", "thing", "shown"], [], f_is_atom, [("shown", (.bool false))]⟩
def d_need_atom (ad : Str → Addr) : Df := ⟨"need_atom", ad "need_atom", top 44, ["field", "thing"], ["field", "thing"], [], f_need_atom, []⟩
def d_place_of (ad : Str → Addr) : Df := ⟨"place_of", ad "place_of", top 45, ["field", "atom"], ["field", "atom"], [], f_place_of, []⟩
def d__law_pool (ad : Str → Addr) : Df := ⟨"_law_pool", ad "_law_pool", top 47, ["script", "k", "cell"], ["script", "k"], [], f__law_pool, []⟩
def d__law_take (ad : Str → Addr) : Df := ⟨"_law_take", ad "_law_take", top 48, ["pool", "many", "digit", "one", "two"], ["pool", "many"], [], f__law_take, []⟩
def d__law_names (ad : Str → Addr) : Df := ⟨"_law_names", ad "_law_names", top 49, ["pool", "many", "letters", "found", "k", "word", "turn", "at", "some", "letter", "one"], ["pool", "many"], [3], f__law_names, []⟩
def d__law_notions (ad : Str → Addr) : Df := ⟨"_law_notions", ad "_law_notions", top 50, ["pool", "names", "name"], ["pool"], [], f__law_notions, []⟩
def d__law_term (ad : Str → Addr) : Df := ⟨"_law_term", ad "_law_term", top 51, ["pool", "notions", "deep", "term", "places", "turn", "mates", "name", "many", "mate", "way", "pair", "made"], ["pool", "notions", "deep"], [], f__law_term, []⟩
def d__law_parts (ad : Str → Addr) : Df := ⟨"_law_parts", ad "_law_parts", top 52, ["term", "found", "part"], ["term"], [1], f__law_parts, []⟩
def d__law_text (ad : Str → Addr) : Df := ⟨"_law_text", ad "_law_text", top 53, ["term", "part"], ["term"], [], f__law_text, []⟩
def d__law_width (ad : Str → Addr) : Df := ⟨"_law_width", ad "_law_width", top 54, ["notions", "term"], ["notions", "term"], [], f__law_width, []⟩
def d__law_terms (ad : Str → Addr) : Df := ⟨"_law_terms", ad "_law_terms", top 55, ["notions", "some", "found", "term", "name", "places", "part", "text"], ["notions", "some"], [2], f__law_terms, []⟩
def d__law_rows (ad : Str → Addr) : Df := ⟨"_law_rows", ad "_law_rows", top 56, ["many", "places", "one", "found", "other"], ["many", "places"], [3], f__law_rows, []⟩
def d__law_atoms (ad : Str → Addr) : Df := ⟨"_law_atoms", ad "_law_atoms", top 57, ["field", "bare", "found", "term", "row"], ["field", "bare"], [2], f__law_atoms, []⟩
def d__law_field (ad : Str → Addr) : Df := ⟨"_law_field", ad "_law_field", top 58, ["pool", "top", "notions", "term", "places", "many", "some", "turn", "other", "field"], ["pool", "top"], [6], f__law_field, []⟩
def d__law_folded (ad : Str → Addr) : Df := ⟨"_law_folded", ad "_law_folded", top 59, ["script", "top", "k"], ["script", "top"], [], f__law_folded, []⟩
def d__law_is_name (ad : Str → Addr) : Df := ⟨"_law_is_name", ad "_law_is_name", top 60, ["thing", "sign"], ["thing"], [], f__law_is_name, []⟩
def d__law_is_from (ad : Str → Addr) : Df := ⟨"_law_is_from", ad "_law_is_from", top 61, ["thing", "least", "last"], ["thing", "least", "last"], [], f__law_is_from, []⟩
def d__law_are_notions (ad : Str → Addr) : Df := ⟨"_law_are_notions", ad "_law_are_notions", top 62, ["thing", "names", "one"], ["thing"], [1], f__law_are_notions, []⟩
def d__law_places (ad : Str → Addr) : Df := ⟨"_law_places", ad "_law_places", top 63, ["notions", "thing", "left", "word", "own", "part"], ["notions", "thing", "left"], [], f__law_places, []⟩
def d__law_odd (ad : Str → Addr) : Df := ⟨"_law_odd", ad "_law_odd", top 64, ["pool", "some"], ["pool"], [], f__law_odd, []⟩
def d__law_spoilt (ad : Str → Addr) : Df := ⟨"_law_spoilt", ad "_law_spoilt", top 65, ["pool", "thing", "deep", "way", "at", "odd", "inner", "some"], ["pool", "thing", "deep"], [], f__law_spoilt, []⟩
def d__law_rough (ad : Str → Addr) : Df := ⟨"_law_rough", ad "_law_rough", top 66, ["pool", "notions", "some", "turn"], ["pool"], [], f__law_rough, []⟩
def d__law_is_field (ad : Str → Addr) : Df := ⟨"_law_is_field", ad "_law_is_field", top 67, ["thing", "term", "at"], ["thing"], [], f__law_is_field, []⟩
def d__law_told (ad : Str → Addr) : Df := ⟨"_law_told", ad "_law_told", top 68, ["way", "thing", "other"], ["way", "thing", "other"], [], f__law_told, []⟩
def d__law_refused (ad : Str → Addr) : Df := ⟨"_law_refused", ad "_law_refused", top 69, ["way", "thing", "other", "e"], ["way", "thing", "other"], [], f__law_refused, []⟩
def d__law_edges (ad : Str → Addr) : Df := ⟨"_law_edges", ad "_law_edges", top 70, ["field", "notions", "some", "many", "found", "pairs", "one", "other", "far", "five"], ["field"], [4], f__law_edges, []⟩
def d__law_right (ad : Str → Addr) : Df := ⟨"_law_right", ad "_law_right", top 71, ["pool", "thing", "kept", "due", "again", "told", "other"], ["pool", "thing"], [], f__law_right, []⟩
def d_law (ad : Str → Addr) : Df := ⟨"law", ad "law", top 72, ["script", "cells", "k", "pool", "field", "things", "turn", "spoilt", "thing"], ["script"], [3], f_law, []⟩
def ds (ad : Str → Addr) : List Df := [d_is_within ad, d_is_notion_name ad, d_is_notion ad, d_is_notions ad, d_made_places ad, d_places_below ad, d_places_in ad, d_text_of ad, d_own_terms ad, d_all_parts ad, d_by_texts ad, d_terms_by ad, d_unknown_rows ad, d_many_atoms ad, d_are_shown ad, d_is_field ad, d_need_field ad, d_terms_in ad, d_terms_of ad, d_atoms_in ad, d_atoms_of ad, d_numbers_in ad, d_is_atom_by ad, d_is_atom_in ad, d_is_atom ad, d_need_atom ad, d_place_of ad, d__law_pool ad, d__law_take ad, d__law_names ad, d__law_notions ad, d__law_term ad, d__law_parts ad, d__law_text ad, d__law_width ad, d__law_terms ad, d__law_rows ad, d__law_atoms ad, d__law_field ad, d__law_folded ad, d__law_is_name ad, d__law_is_from ad, d__law_are_notions ad, d__law_places ad, d__law_odd ad, d__law_spoilt ad, d__law_rough ad, d__law_is_field ad, d__law_told ad, d__law_refused ad, d__law_edges ad, d__law_right ad, d_law ad]
def cx (ad : Str → Addr) (k : Nat) : Value := ([.ref (ad "LoreError"), .ref (ad "NoNotions"), .ref (ad "NoTerm"), .ref (ad "NoField"), .ref (ad "NoAtom")] : List Value).getD k .none
def lw : Lw := ⟨ds, cx, tab, sb, 3000⟩
theorem bi_is_within (ad : Str → Addr) : BindsD (d_is_within ad) := BindsD.all rfl fun kV doc pm an cdv ct us hl => match us, hl with
  | [_, _, _], _ => by kernel_rfl
theorem bi_is_notion_name (ad : Str → Addr) : BindsD (d_is_notion_name ad) := BindsD.all rfl fun kV doc pm an cdv ct us hl => match us, hl with
  | [_], _ => by kernel_rfl
theorem bi_is_notion (ad : Str → Addr) : BindsD (d_is_notion ad) := BindsD.all rfl fun kV doc pm an cdv ct us hl => match us, hl with
  | [_], _ => by kernel_rfl
theorem bi_is_notions (ad : Str → Addr) : BindsD (d_is_notions ad) := BindsD.all rfl fun kV doc pm an cdv ct us hl => match us, hl with
  | [_], _ => by kernel_rfl
theorem bi_made_places (ad : Str → Addr) : BindsD (d_made_places ad) := BindsD.all rfl fun kV doc pm an cdv ct us hl => match us, hl with
  | [_, _], _ => by kernel_rfl
theorem bi_places_below (ad : Str → Addr) : BindsD (d_places_below ad) := BindsD.all rfl fun kV doc pm an cdv ct us hl => match us, hl with
  | [_, _, _], _ => by kernel_rfl
theorem bi_places_in (ad : Str → Addr) : BindsD (d_places_in ad) := BindsD.all rfl fun kV doc pm an cdv ct us hl => match us, hl with
  | [_, _], _ => by kernel_rfl
theorem bi_text_of (ad : Str → Addr) : BindsD (d_text_of ad) := BindsD.all rfl fun kV doc pm an cdv ct us hl => match us, hl with
  | [_], _ => by kernel_rfl
theorem bi_own_terms (ad : Str → Addr) : BindsD (d_own_terms ad) := BindsD.all rfl fun kV doc pm an cdv ct us hl => match us, hl with
  | [_], _ => by kernel_rfl
theorem bi_all_parts (ad : Str → Addr) : BindsD (d_all_parts ad) := BindsD.all rfl fun kV doc pm an cdv ct us hl => match us, hl with
  | [_], _ => by kernel_rfl
theorem bi_by_texts (ad : Str → Addr) : BindsD (d_by_texts ad) := BindsD.all rfl fun kV doc pm an cdv ct us hl => match us, hl with
  | [_], _ => by kernel_rfl
theorem bi_terms_by (ad : Str → Addr) : BindsD (d_terms_by ad) := BindsD.all rfl fun kV doc pm an cdv ct us hl => match us, hl with
  | [_, _], _ => by kernel_rfl
theorem bi_unknown_rows (ad : Str → Addr) : BindsD (d_unknown_rows ad) := BindsD.all rfl fun kV doc pm an cdv ct us hl => match us, hl with
  | [_, _], _ => by kernel_rfl
theorem bi_many_atoms (ad : Str → Addr) : BindsD (d_many_atoms ad) := BindsD.all rfl fun kV doc pm an cdv ct us hl => match us, hl with
  | [_, _, _], _ => by kernel_rfl
theorem bi_are_shown (ad : Str → Addr) : BindsD (d_are_shown ad) := BindsD.all rfl fun kV doc pm an cdv ct us hl => match us, hl with
  | [_, _], _ => by kernel_rfl
theorem bi_is_field (ad : Str → Addr) : BindsD (d_is_field ad) := BindsD.all rfl fun kV doc pm an cdv ct us hl => match us, hl with
  | [_], _ => by kernel_rfl
theorem bi_need_field (ad : Str → Addr) : BindsD (d_need_field ad) := BindsD.all rfl fun kV doc pm an cdv ct us hl => match us, hl with
  | [_], _ => by kernel_rfl
theorem bi_terms_in (ad : Str → Addr) : BindsD (d_terms_in ad) := BindsD.all rfl fun kV doc pm an cdv ct us hl => match us, hl with
  | [_], _ => by kernel_rfl
theorem bi_terms_of (ad : Str → Addr) : BindsD (d_terms_of ad) := BindsD.all rfl fun kV doc pm an cdv ct us hl => match us, hl with
  | [_], _ => by kernel_rfl
theorem bi_atoms_in (ad : Str → Addr) : BindsD (d_atoms_in ad) := BindsD.all rfl fun kV doc pm an cdv ct us hl => match us, hl with
  | [_, _], _ => by kernel_rfl
theorem bi_atoms_of (ad : Str → Addr) : BindsD (d_atoms_of ad) := BindsD.kw (by exact fun h => nomatch h) fun D doc pm an cdv ct us ks hl hk => match us, ks, hl, hk with
  | [_], [_], _, _ => ⟨_, _, _, _, _, _, rfl, rfl, rfl⟩
theorem bi_numbers_in (ad : Str → Addr) : BindsD (d_numbers_in ad) := BindsD.all rfl fun kV doc pm an cdv ct us hl => match us, hl with
  | [_], _ => by kernel_rfl
theorem bi_is_atom_by (ad : Str → Addr) : BindsD (d_is_atom_by ad) := BindsD.all rfl fun kV doc pm an cdv ct us hl => match us, hl with
  | [_, _, _], _ => by kernel_rfl
theorem bi_is_atom_in (ad : Str → Addr) : BindsD (d_is_atom_in ad) := BindsD.all rfl fun kV doc pm an cdv ct us hl => match us, hl with
  | [_, _, _], _ => by kernel_rfl
theorem bi_is_atom (ad : Str → Addr) : BindsD (d_is_atom ad) := BindsD.kw (by exact fun h => nomatch h) fun D doc pm an cdv ct us ks hl hk => match us, ks, hl, hk with
  | [_, _], [_], _, _ => ⟨_, _, _, _, _, _, rfl, rfl, rfl⟩
theorem bi_need_atom (ad : Str → Addr) : BindsD (d_need_atom ad) := BindsD.all rfl fun kV doc pm an cdv ct us hl => match us, hl with
  | [_, _], _ => by kernel_rfl
theorem bi_place_of (ad : Str → Addr) : BindsD (d_place_of ad) := BindsD.all rfl fun kV doc pm an cdv ct us hl => match us, hl with
  | [_, _], _ => by kernel_rfl
theorem bi__law_pool (ad : Str → Addr) : BindsD (d__law_pool ad) := BindsD.all rfl fun kV doc pm an cdv ct us hl => match us, hl with
  | [_, _], _ => by kernel_rfl
theorem bi__law_take (ad : Str → Addr) : BindsD (d__law_take ad) := BindsD.all rfl fun kV doc pm an cdv ct us hl => match us, hl with
  | [_, _], _ => by kernel_rfl
theorem bi__law_names (ad : Str → Addr) : BindsD (d__law_names ad) := BindsD.all rfl fun kV doc pm an cdv ct us hl => match us, hl with
  | [_, _], _ => by kernel_rfl
theorem bi__law_notions (ad : Str → Addr) : BindsD (d__law_notions ad) := BindsD.all rfl fun kV doc pm an cdv ct us hl => match us, hl with
  | [_], _ => by kernel_rfl
theorem bi__law_term (ad : Str → Addr) : BindsD (d__law_term ad) := BindsD.all rfl fun kV doc pm an cdv ct us hl => match us, hl with
  | [_, _, _], _ => by kernel_rfl
theorem bi__law_parts (ad : Str → Addr) : BindsD (d__law_parts ad) := BindsD.all rfl fun kV doc pm an cdv ct us hl => match us, hl with
  | [_], _ => by kernel_rfl
theorem bi__law_text (ad : Str → Addr) : BindsD (d__law_text ad) := BindsD.all rfl fun kV doc pm an cdv ct us hl => match us, hl with
  | [_], _ => by kernel_rfl
theorem bi__law_width (ad : Str → Addr) : BindsD (d__law_width ad) := BindsD.all rfl fun kV doc pm an cdv ct us hl => match us, hl with
  | [_, _], _ => by kernel_rfl
theorem bi__law_terms (ad : Str → Addr) : BindsD (d__law_terms ad) := BindsD.all rfl fun kV doc pm an cdv ct us hl => match us, hl with
  | [_, _], _ => by kernel_rfl
theorem bi__law_rows (ad : Str → Addr) : BindsD (d__law_rows ad) := BindsD.all rfl fun kV doc pm an cdv ct us hl => match us, hl with
  | [_, _], _ => by kernel_rfl
theorem bi__law_atoms (ad : Str → Addr) : BindsD (d__law_atoms ad) := BindsD.all rfl fun kV doc pm an cdv ct us hl => match us, hl with
  | [_, _], _ => by kernel_rfl
theorem bi__law_field (ad : Str → Addr) : BindsD (d__law_field ad) := BindsD.all rfl fun kV doc pm an cdv ct us hl => match us, hl with
  | [_, _], _ => by kernel_rfl
theorem bi__law_folded (ad : Str → Addr) : BindsD (d__law_folded ad) := BindsD.all rfl fun kV doc pm an cdv ct us hl => match us, hl with
  | [_, _], _ => by kernel_rfl
theorem bi__law_is_name (ad : Str → Addr) : BindsD (d__law_is_name ad) := BindsD.all rfl fun kV doc pm an cdv ct us hl => match us, hl with
  | [_], _ => by kernel_rfl
theorem bi__law_is_from (ad : Str → Addr) : BindsD (d__law_is_from ad) := BindsD.all rfl fun kV doc pm an cdv ct us hl => match us, hl with
  | [_, _, _], _ => by kernel_rfl
theorem bi__law_are_notions (ad : Str → Addr) : BindsD (d__law_are_notions ad) := BindsD.all rfl fun kV doc pm an cdv ct us hl => match us, hl with
  | [_], _ => by kernel_rfl
theorem bi__law_places (ad : Str → Addr) : BindsD (d__law_places ad) := BindsD.all rfl fun kV doc pm an cdv ct us hl => match us, hl with
  | [_, _, _], _ => by kernel_rfl
theorem bi__law_odd (ad : Str → Addr) : BindsD (d__law_odd ad) := BindsD.all rfl fun kV doc pm an cdv ct us hl => match us, hl with
  | [_], _ => by kernel_rfl
theorem bi__law_spoilt (ad : Str → Addr) : BindsD (d__law_spoilt ad) := BindsD.all rfl fun kV doc pm an cdv ct us hl => match us, hl with
  | [_, _, _], _ => by kernel_rfl
theorem bi__law_rough (ad : Str → Addr) : BindsD (d__law_rough ad) := BindsD.all rfl fun kV doc pm an cdv ct us hl => match us, hl with
  | [_], _ => by kernel_rfl
theorem bi__law_is_field (ad : Str → Addr) : BindsD (d__law_is_field ad) := BindsD.all rfl fun kV doc pm an cdv ct us hl => match us, hl with
  | [_], _ => by kernel_rfl
theorem bi__law_told (ad : Str → Addr) : BindsD (d__law_told ad) := BindsD.all rfl fun kV doc pm an cdv ct us hl => match us, hl with
  | [_, _, _], _ => by kernel_rfl
theorem bi__law_refused (ad : Str → Addr) : BindsD (d__law_refused ad) := BindsD.all rfl fun kV doc pm an cdv ct us hl => match us, hl with
  | [_, _, _], _ => by kernel_rfl
theorem bi__law_edges (ad : Str → Addr) : BindsD (d__law_edges ad) := BindsD.all rfl fun kV doc pm an cdv ct us hl => match us, hl with
  | [_], _ => by kernel_rfl
theorem bi__law_right (ad : Str → Addr) : BindsD (d__law_right ad) := BindsD.all rfl fun kV doc pm an cdv ct us hl => match us, hl with
  | [_, _], _ => by kernel_rfl
theorem bi_law (ad : Str → Addr) : BindsD (d_law ad) := BindsD.all rfl fun kV doc pm an cdv ct us hl => match us, hl with
  | [_], _ => by kernel_rfl
theorem binds (ad : Str → Addr) : ∀ d ∈ ds ad, BindsD d := List.forall_mem_cons.mpr ⟨bi_is_within ad, List.forall_mem_cons.mpr ⟨bi_is_notion_name ad, List.forall_mem_cons.mpr ⟨bi_is_notion ad, List.forall_mem_cons.mpr ⟨bi_is_notions ad, List.forall_mem_cons.mpr ⟨bi_made_places ad, List.forall_mem_cons.mpr ⟨bi_places_below ad, List.forall_mem_cons.mpr ⟨bi_places_in ad, List.forall_mem_cons.mpr ⟨bi_text_of ad, List.forall_mem_cons.mpr ⟨bi_own_terms ad, List.forall_mem_cons.mpr ⟨bi_all_parts ad, List.forall_mem_cons.mpr ⟨bi_by_texts ad, List.forall_mem_cons.mpr ⟨bi_terms_by ad, List.forall_mem_cons.mpr ⟨bi_unknown_rows ad, List.forall_mem_cons.mpr ⟨bi_many_atoms ad, List.forall_mem_cons.mpr ⟨bi_are_shown ad, List.forall_mem_cons.mpr ⟨bi_is_field ad, List.forall_mem_cons.mpr ⟨bi_need_field ad, List.forall_mem_cons.mpr ⟨bi_terms_in ad, List.forall_mem_cons.mpr ⟨bi_terms_of ad, List.forall_mem_cons.mpr ⟨bi_atoms_in ad, List.forall_mem_cons.mpr ⟨bi_atoms_of ad, List.forall_mem_cons.mpr ⟨bi_numbers_in ad, List.forall_mem_cons.mpr ⟨bi_is_atom_by ad, List.forall_mem_cons.mpr ⟨bi_is_atom_in ad, List.forall_mem_cons.mpr ⟨bi_is_atom ad, List.forall_mem_cons.mpr ⟨bi_need_atom ad, List.forall_mem_cons.mpr ⟨bi_place_of ad, List.forall_mem_cons.mpr ⟨bi__law_pool ad, List.forall_mem_cons.mpr ⟨bi__law_take ad, List.forall_mem_cons.mpr ⟨bi__law_names ad, List.forall_mem_cons.mpr ⟨bi__law_notions ad, List.forall_mem_cons.mpr ⟨bi__law_term ad, List.forall_mem_cons.mpr ⟨bi__law_parts ad, List.forall_mem_cons.mpr ⟨bi__law_text ad, List.forall_mem_cons.mpr ⟨bi__law_width ad, List.forall_mem_cons.mpr ⟨bi__law_terms ad, List.forall_mem_cons.mpr ⟨bi__law_rows ad, List.forall_mem_cons.mpr ⟨bi__law_atoms ad, List.forall_mem_cons.mpr ⟨bi__law_field ad, List.forall_mem_cons.mpr ⟨bi__law_folded ad, List.forall_mem_cons.mpr ⟨bi__law_is_name ad, List.forall_mem_cons.mpr ⟨bi__law_is_from ad, List.forall_mem_cons.mpr ⟨bi__law_are_notions ad, List.forall_mem_cons.mpr ⟨bi__law_places ad, List.forall_mem_cons.mpr ⟨bi__law_odd ad, List.forall_mem_cons.mpr ⟨bi__law_spoilt ad, List.forall_mem_cons.mpr ⟨bi__law_rough ad, List.forall_mem_cons.mpr ⟨bi__law_is_field ad, List.forall_mem_cons.mpr ⟨bi__law_told ad, List.forall_mem_cons.mpr ⟨bi__law_refused ad, List.forall_mem_cons.mpr ⟨bi__law_edges ad, List.forall_mem_cons.mpr ⟨bi__law_right ad, List.forall_mem_cons.mpr ⟨bi_law ad, fun _ h => absurd h (by simp)⟩⟩⟩⟩⟩⟩⟩⟩⟩⟩⟩⟩⟩⟩⟩⟩⟩⟩⟩⟩⟩⟩⟩⟩⟩⟩⟩⟩⟩⟩⟩⟩⟩⟩⟩⟩⟩⟩⟩⟩⟩⟩⟩⟩⟩⟩⟩⟩⟩⟩⟩⟩⟩
theorem dfs (ad : Str → Addr) : ∀ d ∈ ds ad, d.Ok tab := dfs_ok (by kernel_rfl) (by kernel_rfl)
theorem lwOk : LwOk lw := ⟨fun ad => by kernel_rfl, binds, dfs⟩
theorem isLaw (ad : Str → Addr) : ∃ dl : Df, (lw.ds ad)[52]? = some dl ∧ dl.ps = (["script"] : List Str) ∧ dl.kws = [] ∧ dl.name = ("law" : Str) := ⟨d_law ad, rfl, rfl, rfl, rfl⟩
theorem isFns (ad : Str → Addr) : (lw.ds ad).map (·.fn) = fns := by kernel_rfl
def nms0 : List Str := ["LoreError", "NoNotions", "NoTerm", "NoField", "NoAtom", "MADE_OF", "OF_TWO", "SMALL_LETTERS", "MOST_LETTERS", "MOST_NOTIONS", "MOST_PLACES", "DEEPEST", "is_within", "is_notion_name", "is_notion", "is_notions", "made_places", "places_below", "places_in", "text_of", "own_terms", "all_parts", "by_texts", "MOST_SHOWN", "MOST_ATOMS", "MOST_TERMS", "MOST_UNKNOWNS", "terms_by", "unknown_rows", "many_atoms"]
def nms1 : List Str := ["are_shown", "is_field", "need_field", "terms_in", "terms_of", "atoms_in", "atoms_of", "numbers_in", "is_atom_by", "is_atom_in", "is_atom", "need_atom", "place_of", "_law_pool", "_law_take", "_law_names", "_law_notions", "_law_term", "_law_parts", "_law_text", "_law_width", "_law_terms", "_law_rows", "_law_atoms", "_law_field", "_law_folded", "_law_is_name", "_law_is_from", "_law_are_notions", "_law_places"]
def nms2 : List Str := ["_law_odd", "_law_spoilt", "_law_rough", "_law_is_field", "_law_told", "_law_refused", "_law_edges", "_law_right"]
def nms : List Str := nms0 ++ nms1 ++ nms2
abbrev Rw0 : PySem.W.OpenRow := PySem.W.OpenLaw.row PySem.Challenge.rw_lorestead_k04_fields_known
abbrev qv : Program := PySem.W.view Rw0.prog [72]
set_option maxHeartbeats 0 in
theorem headRun (w : World) : HandSHeadRun.RunEq Rw0 qv (hk lw) (obH lw) 20000 nms w := PySem.W.byRow2 "special-get-raises" (P := fun w => HandSHeadRun.RunEq Rw0 qv (hk lw) (obH lw) 20000 nms w) (fun w os => by kernel_rfl) (fun w os => by kernel_rfl) w
end K04
end Lo
namespace Lo
namespace K04
open PySem PySem.Spec PyProof.Rows L2
end K04
end Lo
open PySem PySem.W PySem.Calls PyProof.Rows
set_option maxRecDepth 100000 in
set_option maxHeartbeats 0 in
theorem PySem.Challenge.cw_lorestead_k04_fields_known_holds : PySem.Challenge.rw_lorestead_k04_fields_known.Holds := by
  w_on; o_law
  refine HandSHeadRun.head_any (r := Lo.K04.Rw0) (q := Lo.K04.qv) (H := Lo.hk Lo.K04.lw) (ob := Lo.obH Lo.K04.lw) (M := 20000) (loose := Lo.K04.nms) (d := HandSHeadRun.topDef Lo.K04.Rw0.prog 72) (kwd := []) (Lo.obH_eq Lo.K04.lw)
    (by kernel_rfl) (fun s => by kernel_rfl) Lo.K04.headRun (by kernel_rfl) (by kernel_rfl) (by kernel_rfl) (by rfl) (by first | assumption | decide +kernel) (by decide +kernel) ⟨rfl, rfl, rfl, rfl, rfl, by decide +kernel⟩ ?hw ?hc
  case hw => w_witness2
  case hc =>
    exact Lo.walk_lw (l := PySem.Challenge.rw_lorestead_k04_fields_known) (k := 230) (il := 52) (turns := Lo.K04.turns) (fns := Lo.K04.fns) (x := "script") rfl (by kernel_rfl) ⟨rfl, by decide, by decide⟩ Lo.K04.lwOk (fun ad => let ⟨dl, h1, h2, h4, h3⟩ := Lo.K04.isLaw ad; ⟨dl, h1, h2, h4, h3.trans (by kernel_rfl)⟩) Lo.K04.isFns Lo.K04.run
