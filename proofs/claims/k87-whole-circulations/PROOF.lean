import PyProof.Rows.All
import Wide.All
import OpenK.AllK
import Wide.FinOn
import HandS.ForMost
import HandS.More
import HandS.ForExc
import HandS.TupAny
import HandS.TupLe
import HandS.Style
import HandS.Deep
import HandS.Conv
import HandS.IsInst
import HandS.SortInts
import HandS.Strs
import HandS.SetKeys
import HandS.List
import HandS.Rev
import KE.SortData
import HandS.SortRule
import HandS.SetFor
import HandS.TupSets
import HandS.CallSlots
import HandS.ExcCtx
import HandS.HeadWalk
import HandS.Comp
import HandS.ExcInit
import HandS.ExcField
import HandS.Zip
import HandS.Flow
import OpenK.KCls
import HandS.HeadHook2
import HandS.HeadHook4
import HandS.EndBits
import KE.KStateDown
import HandS.Head0
import HandS.Head1
import HandS.Head2
import HandS.HeadEnd
import PySem.Challenge.RW_treework_k87_whole_circulations
set_option Elab.async false
set_option linter.all false
set_option maxRecDepth 100000
set_option maxHeartbeats 0
/-! Mini-Python over plain data: data, the intermediate form, its denotation. -/
namespace Mp
open PySem (Str)

/-- plain data. o: the object is owned (it may be changed here); else it stays as it is for ever. gone: nothing is known -/
inductive D where
  | non | bl (b : Bool) | int (i : Int) | str (s : Str)
  | tup (xs : List D)
  | scr (ns : List Int)
  | lst (o : Bool) (xs : List D)
  | dct (o : Bool) (k : Bool) (ks : List D) (vs : List D)
  | ins (o : Bool) (c : Nat) (fs : List Nat) (vs : List D)
  | gone
  deriving Inhabited

mutual
/-- nothing owned, nothing unknown within -/
def sh : D → Bool
  | .non => true | .bl _ => true | .int _ => true | .str _ => true | .scr _ => true
  | .tup xs => shL xs
  | .lst o xs => !o && shL xs
  | .dct o _ ks vs => !o && shL vs
  | .ins o _ _ vs => !o && shL vs
  | .gone => false
def shL : List D → Bool
  | [] => true
  | x :: xs => sh x && shL xs
end
mutual
def fz : D → D
  | .non => .non | .bl b => .bl b | .int i => .int i | .str s => .str s | .scr ns => .scr ns
  | .tup xs => .tup (fzL xs)
  | .lst _ xs => .lst false (fzL xs)
  | .dct _ k ks vs => .dct false k ks (fzL vs)
  | .ins _ c fs vs => .ins false c fs (fzL vs)
  | .gone => .gone
def fzL : List D → List D
  | [] => []
  | x :: xs => fz x :: fzL xs
end
mutual
/-- may be frozen: nothing unknown within -/
def fzable : D → Bool
  | .non => true | .bl _ => true | .int _ => true | .str _ => true | .scr _ => true
  | .tup xs => fzableL xs
  | .lst _ xs => fzableL xs
  | .dct _ _ _ vs => fzableL vs
  | .ins _ _ _ vs => fzableL vs
  | .gone => false
def fzableL : List D → Bool
  | [] => true
  | x :: xs => fzable x && fzableL xs
end
mutual
/-- == of data -/
def eqD : D → D → Bool
  | .non, .non => true
  | .bl a, .bl b => a == b
  | .bl a, .int j => (if a then 1 else 0) == j
  | .int i, .bl b => i == (if b then 1 else 0)
  | .int i, .int j => i == j
  | .str x, .str y => x == y
  | .tup xs, .tup ys => eqL xs ys
  | .lst _ xs, .lst _ ys => eqL xs ys
  | _, _ => false
def eqL : List D → List D → Bool
  | [], [] => true
  | x :: xs, y :: ys => eqD x y && eqL xs ys
  | _, _ => false
end
mutual
/-- data that == serves, of depth below n -/
def okD : Nat → D → Bool
  | _, .non => true | _, .bl _ => true | _, .int _ => true
  | _, .str s => s.cps.all fun c => decide (c < 0x110000)
  | n + 1, .tup xs => okL n xs
  | n + 1, .lst _ xs => okL n xs
  | _, _ => false
def okL : Nat → List D → Bool
  | _, [] => true
  | n, x :: xs => okD n x && okL n xs
end

abbrev Env := List D
inductive R (α : Type) where
  | ok (a : α) | exc (c : Nat) (d : D) (ρ : Env) | stuck
  deriving Inhabited
def R.bind {α β : Type} (r : R α) (f : α → R β) : R β := match r with
  | .ok a => f a
  | .exc c d ρ => .exc c d ρ
  | .stuck => .stuck
def R.calm {α : Type} : R α → R α
  | .ok a => .ok a
  | _ => .stuck
def R.of {α : Type} : Option α → R α
  | some a => .ok a
  | none => .stuck
/-- what a def does: its answer, and what its parameters' objects have become -/
inductive FR where
  | ok (d : D) (outs : List D) | exc (c : Nat) (d : D) | stuck
  deriving Inhabited
abbrev Fn := List D → FR

/-! ### places -/
def kids : D → Option (List D)
  | .lst true xs => some xs
  | .dct true _ _ vs => some vs
  | .ins true _ _ vs => some vs
  | _ => none
def withKids : D → List D → D
  | .lst o _, ys => .lst o ys
  | .dct o k ks _, ys => .dct o k ks ys
  | .ins o c fs _, ys => .ins o c fs ys
  | d, _ => d
def getP : D → List Nat → Option D
  | d, [] => some d
  | d, n :: π => match kids d with
    | some xs => match xs[n]? with
      | some c => getP c π
      | none => none
    | none => none
def setP : D → List Nat → D → D
  | _, [], x => x
  | d, n :: π, x => match kids d with
    | some xs => match xs[n]? with
      | some c => withKids d (xs.set n (setP c π x))
      | none => d
    | none => d
def slot (ρ : Env) (i : Nat) : D := ρ.getD i .gone
def getS (ρ : Env) (i : Nat) (π : List Nat) : Option D := match getP (slot ρ i) π with
  | some .gone => none
  | o => o
def setS (ρ : Env) (i : Nat) (π : List Nat) (x : D) : Env := ρ.set i (setP (slot ρ i) π x)
/-- an operand: a place (read when the operation comes), or a value made on the way -/
inductive OV where
  | pl (i : Nat) (π : List Nat) | tm (d : D)
  deriving Inhabited
/-- what a value made on the way is to those that read it: no part of it is owned -/
def soft (d : D) : Option D := match d with
  | .lst _ xs => match shL xs with
    | true => some d
    | false => match fzableL xs with
      | true => some (.lst false (fzL xs))
      | false => none
  | .tup xs => match shL xs with
    | true => some d
    | false => match fzableL xs with
      | true => some (.tup (fzL xs))
      | false => none
  | .dct _ k ks vs => match shL vs with
    | true => some d
    | false => match fzableL vs with
      | true => some (.dct false k ks (fzL vs))
      | false => none
  | .ins _ c fs vs => match shL vs with
    | true => some d
    | false => match fzableL vs with
      | true => some (.ins false c fs (fzL vs))
      | false => none
  | d => some d
def OV.rd (ρ : Env) : OV → Option D
  | .pl i π => getS ρ i π
  | .tm d => soft d
/-- it stands also behind a change of the slots -/
def OV.firm : OV → Bool
  | .pl _ [] => true
  | .pl _ _ => false
  | .tm _ => true

/-! ### operations -/
def line : Nat := 16777216
def two62 : Int := 4611686018427387904
inductive Op where
  | add | sub | mul | fdiv | mod | pow | shl | shr | band | bor | bxor
  deriving DecidableEq, Inhabited
inductive Cp where
  | eq | ne | lt | le | gt | ge | is_ | isnot | in_ | notin
  deriving DecidableEq, Inhabited
def small64 (i : Int) : Bool := Nat.blt i.natAbs 18446744073709551616
theorem small64_eq (i : Int) : small64 i = (decide (-(18446744073709551616) < i) && decide (i < 18446744073709551616)) := by
  unfold small64
  rw [Bool.eq_iff_iff]
  simp [Nat.blt]
  omega
def binI (op : Op) (i j : Int) : Option D := match op with
  | .add => some (.int (i + j))
  | .sub => some (.int (i - j))
  | .mul => if small64 i || small64 j then some (.int (i * j)) else none
  | .fdiv => if decide (j ≠ 0) && decide (j.natAbs < 1073741824) then some (.int (i.fdiv j)) else none
  | .mod => if decide (j ≠ 0) then some (.int (i.fmod j)) else none
  | .pow => if decide (0 ≤ j) && decide (j ≤ 1000000) && decide (i.natAbs < 18446744073709551616) then some (.int (i ^ j.toNat)) else none
  | .shl => if decide (0 ≤ j) && decide (j ≤ 1000000) && decide (i.natAbs < 18446744073709551616) then some (.int (i * 2 ^ j.toNat)) else none
  | .shr => if decide (0 ≤ j) then some (.int (i / 2 ^ j.toNat)) else none
  | _ => none
def b2i (b : Bool) : Int := if b then 1 else 0
def binD (op : Op) : D → D → Option D
  | .int i, .int j => binI op i j
  | .int i, .bl b => match op with
    | .add => some (.int (i + b2i b))
    | _ => none
  | .lst _ xs, .lst _ ys => match op with
    | .add => if shL xs && shL ys && decide (xs.length + ys.length ≤ line) then some (.lst true (xs ++ ys)) else none
    | _ => none
  | .tup xs, .tup ys => match op with
    | .add => if shL xs && shL ys && decide (xs.length + ys.length ≤ line) then some (.tup (xs ++ ys)) else none
    | _ => none
  | .lst _ xs, .int k => match op with
    | .mul => if shL xs && decide (-two62 ≤ k) && decide (k ≤ two62) && decide (xs.length * k.toNat ≤ line) then some (.lst true (List.replicate k.toNat xs).flatten) else none
    | _ => none
  | .str s, .str t => match op with
    | .add => if decide (s.length + t.length ≤ line) then some (.str (s ++ t)) else none
    | _ => none
  | _, _ => none
mutual
/-- x < y: toInts; tuples of toInts -/
def toInts : List D → Option (List Int)
  | [] => some []
  | .int i :: xs => match toInts xs with
    | some r => some (i :: r)
    | none => none
  | _ :: _ => none
end
def ltI : List Int → List Int → Bool
  | [], [] => false
  | [], _ :: _ => true
  | _ :: _, [] => false
  | a :: as, b :: bs => decide (a < b) || (decide (a = b) && ltI as bs)
def flat : D → Bool
  | .non => true | .bl _ => true | .int _ => true | .str _ => true | _ => false
def okEq (a : D) : Bool := okD 64 a
def memD (x : D) : List D → Bool
  | [] => false
  | y :: ys => eqD y x || memD x ys
def findD (x : D) : List D → Option Nat
  | [] => none
  | y :: ys => if eqD y x then some 0 else (findD x ys).map (· + 1)
def keyOk (k : Bool) : D → Bool
  | .int _ => k
  | .str _ => k
  | .tup xs => !k && xs.all fun x => match x with
    | .int _ => true
    | .str _ => true
    | _ => false
  | _ => false
def cmpD (op : Cp) (x y : D) : Option D := match op with
  | .eq => if okEq x && okEq y then some (.bl (eqD x y)) else none
  | .ne => if okEq x && okEq y then some (.bl (!eqD x y)) else none
  | .lt => match x, y with
    | .int i, .int j => some (.bl (decide (i < j)))
    | .tup xs, .tup ys => match toInts xs, toInts ys with
      | some a, some b => some (.bl (ltI a b))
      | _, _ => none
    | _, _ => none
  | .le => match x, y with
    | .int i, .int j => some (.bl (decide (i ≤ j)))
    | _, _ => none
  | .gt => match x, y with
    | .int i, .int j => some (.bl (decide (j < i)))
    | _, _ => none
  | .ge => match x, y with
    | .int i, .int j => some (.bl (decide (j ≤ i)))
    | _, _ => none
  | .is_ => match x, y with
    | .gone, _ => none
    | .non, .non => some (.bl true)
    | _, .non => some (.bl false)
    | .bl a, .bl b => some (.bl (a == b))
    | .int _, .bl _ => none
    | .str _, .bl _ => none
    | .non, .bl _ => none
    | _, _ => none
  | .isnot => match x, y with
    | .gone, _ => none
    | .non, .non => some (.bl false)
    | _, .non => some (.bl true)
    | .bl a, .bl b => some (.bl (!(a == b)))
    | .int _, .bl _ => none
    | .str _, .bl _ => none
    | .non, .bl _ => none
    | _, _ => none
  | .in_ => match y with
    | .lst _ ys => if okEq x && okL 63 ys then some (.bl (memD x ys)) else none
    | .tup ys => if flat x && ys.all flat then some (.bl (memD x ys)) else none
    | .dct _ k ks _ => if keyOk k x then some (.bl (memD x ks)) else none
    | _ => none
  | .notin => match y with
    | .lst _ ys => if okEq x && okL 63 ys then some (.bl (!memD x ys)) else none
    | .tup ys => if flat x && ys.all flat then some (.bl (!memD x ys)) else none
    | .dct _ k ks _ => if keyOk k x then some (.bl (!memD x ks)) else none
    | _ => none
/-- truth -/
def truth : D → Option Bool
  | .non => some false
  | .bl b => some b
  | .int i => some (i != 0)
  | .str s => if decide (s.length ≤ line) then some (s.length != 0) else none
  | .tup xs => some (!xs.isEmpty)
  | .lst _ xs => some (!xs.isEmpty)
  | .dct _ _ ks _ => some (!ks.isEmpty)
  | _ => none
/-- the place of the index i in n items -/
def place (i : Int) (n : Nat) : Option Nat :=
  if 0 ≤ i then (if i < n then some i.toNat else none) else (if 0 ≤ i + n then some (i + n).toNat else none)
def itemN (d i : D) : Option Nat := match d, i with
  | .lst _ xs, .int n => place n xs.length
  | .tup xs, .int n => place n xs.length
  | .scr xs, .int n => place n xs.length
  | .dct _ k ks _, x => if keyOk k x then findD x ks else none
  | _, _ => none
def kidsAny : D → List D
  | .tup xs => xs
  | .scr ns => ns.map D.int
  | .lst _ xs => xs
  | .dct _ _ _ vs => vs
  | .ins _ _ _ vs => vs
  | _ => []
def itemD (d i : D) : Option D := match itemN d i with
  | some n => match (kidsAny d)[n]? with
    | some c => if sh c then some c else none
    | none => none
  | none => none
def intD : D → Option Int
  | .int a => some a
  | _ => none
/-- an item that is a whole number -/
def itemA (d i : D) : Option Int := match d, i with
  | .lst _ xs, .int n => match place n xs.length with
    | some k => match xs[k]? with
      | some c => intD c
      | none => none
    | none => none
  | .dct _ k ks vs, x => if k && keyOk true x then (match findD x ks with
    | some n => match vs[n]? with
      | some c => intD c
      | none => none
    | none => none) else none
  | _, _ => none
/-- a slice's part: from a up to b of n items, step 1 -/
def clampI (i : Int) (n : Nat) : Nat := if i < 0 then (i + n).toNat else min i.toNat n
def cut (xs : List D) (a b : Option Int) : List D :=
  let lo := (a.map fun i => clampI i xs.length).getD 0
  let hi := (b.map fun i => clampI i xs.length).getD xs.length
  (xs.take hi).drop lo
def cutD (d : D) (a b : Option Int) : Option D := match d with
  | .lst _ xs => if shL xs then some (.lst true (cut xs a b)) else none
  | .tup xs => if shL xs then some (.tup (cut xs a b)) else none
  | _ => none
def revD : D → Option D
  | .lst _ xs => if shL xs then some (.lst true xs.reverse) else none
  | _ => none
def insI (x : Int) : List Int → List Int
  | [] => [x]
  | y :: ys => if x ≤ y then x :: y :: ys else y :: insI x ys
def sortI : List Int → List Int
  | [] => []
  | x :: xs => insI x (sortI xs)
def insT (x : List Int) : List (List Int) → List (List Int)
  | [] => [x]
  | y :: ys => if ltI y x then y :: insT x ys else x :: y :: ys
def sortT : List (List Int) → List (List Int)
  | [] => []
  | x :: xs => insT x (sortT xs)
def tupsI : List D → Option (List (List Int))
  | [] => some []
  | .tup t :: xs => match toInts t, tupsI xs with
    | some a, some r => some (a :: r)
    | _, _ => none
  | _ :: _ => none
def encT (a : List Int) : D := .tup (a.map D.int)
def dedI : List Int → List Int
  | [] => []
  | x :: xs => if xs.contains x then dedI xs else x :: dedI xs
def dedT : List (List Int) → List (List Int)
  | [] => []
  | x :: xs => if xs.contains x then dedT xs else x :: dedT xs
def sortD (xs : List D) : Option D := match toInts xs with
  | some a => some (.lst true ((sortI a).map D.int))
  | none => match tupsI xs with
    | some a => some (.lst true ((sortT a).map encT))
    | none => none
def seqOf : D → Option (List D)
  | .lst _ xs => some xs
  | .tup xs => some xs
  | _ => none
def maxI : Int → List Int → Int
  | m, [] => m
  | m, x :: xs => maxI (if x > m then x else m) xs
def minI : Int → List Int → Int
  | m, [] => m
  | m, x :: xs => minI (if x < m then x else m) xs
def bools : List D → Option (List Bool)
  | [] => some []
  | .bl b :: xs => match bools xs with
    | some r => some (b :: r)
    | none => none
  | _ :: _ => none
inductive Ty where
  | int | bool | str | list | tuple | dict | cls (c : Nat)
  deriving DecidableEq, Inhabited
def tyD : D → Option Ty
  | .bl _ => some .bool | .int _ => some .int | .str _ => some .str | .tup _ => some .tuple | .lst _ _ => some .list | .dct _ _ _ _ => some .dict
  | _ => none
def tyEq : Ty → Ty → Bool
  | .int, .int => true | .bool, .bool => true | .bool, .int => true | .str, .str => true | .list, .list => true | .tuple, .tuple => true | .dict, .dict => true
  | _, _ => false
def isTy (d : D) (t : Ty) : Option Bool := match t with
  | .cls _ => none
  | t => match d with
    | .non => some false
    | d => (tyD d).map fun u => tyEq u t
/-- built-ins of operands that are only read -/
inductive Bl where
  | len | abs | int | bool | min1 | max1 | min2 | max2 | sum | list | tuple | sorted | any | all
  | lenset | sortedset | isinst (t : Ty) | isinst2 (t u : Ty) | count | index | get1 | get2 | divmod | dict
  deriving DecidableEq, Inhabited
def blD (b : Bl) (args : List D) : Option D := match b, args with
  | .len, [d] => match d with
    | .lst _ xs => some (.int xs.length)
    | .tup xs => some (.int xs.length)
    | .scr xs => some (.int xs.length)
    | .dct _ _ ks _ => some (.int ks.length)
    | .str s => if s.length ≤ line then some (.int s.length) else none
    | _ => none
  | .abs, [.int i] => some (.int (if i < 0 then -i else i))
  | .int, [.int i] => some (.int i)
  | .int, [.bl b] => some (.int (b2i b))
  | .bool, [.int i] => some (.bl (i != 0))
  | .bool, [.bl b] => some (.bl b)
  | .min2, [.int i, .int j] => some (.int (if j < i then j else i))
  | .max2, [.int i, .int j] => some (.int (if j > i then j else i))
  | .min1, [d] => match seqOf d with
    | some xs => match toInts xs with
      | some (x :: r) => some (.int (minI x r))
      | _ => none
    | none => none
  | .max1, [d] => match seqOf d with
    | some xs => match toInts xs with
      | some (x :: r) => some (.int (maxI x r))
      | _ => none
    | none => none
  | .sum, [.lst _ xs] => match toInts xs with
    | some a => some (.int a.sum)
    | none => none
  | .any, [.lst _ xs] => match bools xs with
    | some a => some (.bl (a.any id))
    | none => none
  | .all, [.lst _ xs] => match bools xs with
    | some a => some (.bl (a.all id))
    | none => none
  | .list, [d] => match d with
    | .dct _ _ ks _ => some (.lst true ks)
    | _ => match seqOf d with
      | some xs => if shL xs then some (.lst true xs) else none
      | none => none
  | .tuple, [d] => match seqOf d with
    | some xs => if shL xs then some (.tup xs) else none
    | none => none
  | .sorted, [.lst _ xs] => match toInts xs with
    | some a => some (.lst true ((sortI a).map D.int))
    | none => match tupsI xs with
      | some a => if a.all (fun t => !t.isEmpty) || decide (a.length ≤ 1) then some (.lst true ((sortT a).map encT)) else none
      | none => none
  | .sorted, [.dct _ _ ks _] => match toInts ks with
    | some a => if decide (a.length < 64) then some (.lst true ((sortI a).map D.int)) else none
    | none => none
  | .lenset, [.lst _ xs] => match toInts xs with
    | some a => if decide (a.length < 1000) then some (.int (dedI a).length) else none
    | none => none
  | .sortedset, [.tup xs] => match toInts xs with
    | some a => if decide (a.length < 60) then some (.lst true ((sortI (dedI a)).map D.int)) else none
    | none => none
  | .sortedset, [.lst _ xs] => match toInts xs with
    | some a => if decide (a.length < 60) then some (.lst true ((sortI (dedI a)).map D.int)) else none
    | none => none
  | .isinst t, [d] => ((isTy d t).map D.bl)
  | .isinst2 t u, [d] => match isTy d t, isTy d u with
    | some a, some b => some (.bl (a || b))
    | _, _ => none
  | .count, [d, x] => match seqOf d with
    | some xs => if okEq x && okL 63 xs then some (.int ((xs.filter fun y => eqD x y).length)) else none
    | none => none
  | .index, [d, x] => match seqOf d with
    | some xs => if okEq x && okL 63 xs then ((findD x xs).map fun n => D.int n) else none
    | none => none
  | .get1, [.dct _ k ks vs, x] => if keyOk k x then (match findD x ks with
      | some n => match vs[n]? with
        | some c => if sh c then some c else none
        | none => none
      | none => some .non) else none
  | .get2, [.dct _ k ks vs, x, y] => if keyOk k x && sh y then (match findD x ks with
      | some n => match vs[n]? with
        | some c => if sh c then some c else none
        | none => none
      | none => some y) else none
  | .divmod, [.int i, .int j] => if decide (0 < j) && decide (j < 1073741824) then some (.tup [.int (i / j), .int (i % j)]) else none
  | .dict, [d] => match d with
    | .dct _ k ks vs => if shL vs then some (.dct true k ks vs) else none
    | _ => none
  | _, _ => none

/-- in-place operations at a place; the answer, what the object becomes -/
inductive Bm where
  | append | pop0 | pop1 | extend | insert | remove | reverse | sort | clear | setdef | dpop2
  deriving DecidableEq, Inhabited
/-- what the object is: a list, a dict -/
def bmTy : D → Option Bool
  | .lst true _ => some true
  | .dct true true _ _ => some false
  | _ => none
def bmFor : Bm → Bool
  | .setdef => false
  | .dpop2 => false
  | _ => true
def bmD (m : Bm) (d : D) (args : List D) : Option (D × D) := match m, d, args with
  | .append, .lst true xs, [x] => if decide (xs.length < line) then some (.non, .lst true (xs ++ [x])) else none
  | .pop0, .lst true xs, [] => match xs[xs.length - 1]? with
    | some x => some (x, .lst true xs.dropLast)
    | none => none
  | .pop1, .lst true xs, [.int i] => if decide (-1000000 ≤ i) && decide (i ≤ 1000000) then (match place i xs.length with
    | some n => match xs[n]? with
      | some x => some (x, .lst true (xs.eraseIdx n))
      | none => none
    | none => none) else none
  | .extend, .lst true xs, [e] => match seqOf e with
    | some ys => if shL ys && decide (xs.length + ys.length ≤ line) then some (.non, .lst true (xs ++ ys)) else none
    | none => none
  | .insert, .lst true xs, [.int i, x] => if decide (xs.length < line) && decide (0 ≤ i) && decide (i < 2 ^ 62) then some (.non, .lst true (xs.take i.toNat ++ x :: xs.drop i.toNat)) else none
  | .remove, .lst true xs, [.int k] => match toInts xs with
    | some ns => (match ns.idxOf? k with
      | some n => some (.non, .lst true (xs.eraseIdx n))
      | none => none)
    | none => none
  | .reverse, .lst true xs, [] => some (.non, .lst true xs.reverse)
  | .sort, .lst true xs, [] => match sortD xs with
    | some (.lst _ ys) => some (.non, .lst true ys)
    | _ => none
  | .clear, .lst true _, [] => some (.non, .lst true [])
  | .setdef, .dct true k ks vs, [x, y] => if keyOk k x then (match findD x ks with
      | some _ => if decide (ks.length < line) then some (.gone, .dct true k ks vs) else none
      | none => if decide (ks.length < line) then some (.gone, .dct true k (ks ++ [x]) (vs ++ [y])) else none) else none
  | _, _, _ => none
/-- d[k] = x -/
def putD (d k x : D) : Option D := match d with
  | .lst true xs => match k with
    | .int i => match place i xs.length with
      | some n => some (.lst true (xs.set n x))
      | none => none
    | _ => none
  | .dct true b ks vs => if keyOk b k then (match findD k ks with
      | some n => if decide (ks.length < line) then some (.dct true b ks (vs.set n x)) else none
      | none => if decide (ks.length < line) then some (.dct true b (ks ++ [k]) (vs ++ [x])) else none) else none
  | _ => none
def fldN (f : Nat) : List Nat → Option Nat
  | [] => none
  | g :: r => if g = f then some 0 else (fldN f r).map (· + 1)
def putF (d : D) (f : Nat) (x : D) : Option D := match d with
  | .ins true c fs vs => match fldN f fs with
    | some n => if decide (fs.length < 900) then some (.ins true c fs (vs.set n x)) else none
    | none => if decide (fs.length < 900) then some (.ins true c (fs ++ [f]) (vs ++ [x])) else none
  | _ => none

/-! ### the intermediate form -/
mutual
inductive Tg where
  | var (i : Nat) | tup (ts : Tgs)
inductive Tgs where
  | nil | cons (t : Tg) (ts : Tgs)
end
mutual
inductive P where
  | var (i : Nat) | fld (p : P) (f : Nat) | ix (p : P) (e : E)
inductive O where
  | pl (p : P) | tm (e : E)
inductive Os where
  | nil | cons (o : O) (os : Os)
inductive Es where
  | nil | cons (e : E) (es : Es)
inductive T where
  | tr (o : O) | cmp (op : Cp) (a b : O) | chain (op op2 : Cp) (a b c : O) | and (a b : T) | or (a b : T) | not (a : T)
inductive E where
  | non | bl (b : Bool) | int (i : Int) | str (s : Str) | glob (k : Nat)
  | rd (p : P) | mv (i : Nat) | frz (e : E)
  | bin (op : Op) (a b : O)
  | neg (a : O) | inv (a : O)
  | cmp (op : Cp) (a b : O)
  | chain (op op2 : Cp) (a b c : O)
  | andv (a b : E) | orv (a b : E) | notv (a : O)
  | ife (t : T) (a b : E)
  | sub (a i : O)
  | slc (a : O) (lo hi : Es) (k : Nat)
  | rev (a : O)
  | lst (es : Es) | tup (es : Es) | dnew (k : Bool) | dd1 (ke ve : E)
  | blt (b : Bl) (os : Os)
  | call (f : Nat) (os : Os)
  | make (f c : Nat) (fz : Bool) (os : Os)
  | meth (f c : Nat) (a : O) (os : Os)
  | bm (m : Bm) (p : P) (es : Es)
  | fldv (a : O) (f : Nat)
  | rng (os : Os)
  | lc (it : I) (tg : Tg) (own : List Nat) (cs : Cs) (elt : E)
  | lc2 (it : I) (tg : Tg) (own : List Nat) (cs : Cs) (it2 : I) (tg2 : Tg) (own2 : List Nat) (cs2 : Cs) (elt : E)
  | dc (k : Bool) (it : I) (tg : Tg) (own : List Nat) (cs : Cs) (ke ve : E)
inductive Cs where
  | nil | one (t : T)
inductive I where
  | seq (o : O) | lock (i : Nat) | rng1 (a : O) | rng2 (a b : O) | rng3 (a b c : O) | enum (o : O) | zip (a b : O) | items (o : O) | keys (o : O) | vals (o : O) | revs (o : O)
end
/-- what an except suite says: the error's field, constants, tuples of these; whether the field is a text -/
inductive Xe where
  | what | str (s : Str) | bl (b : Bool) | pair (a b : Xe) | eqs (s : Str) | isx (c : Nat)
inductive Xt where
  | isx (c : Nat) | and (a b : Xt) | not (a : Xt)
inductive Xs where
  | ret (e : Xe) | app (i : Nat) (e : Xe) | iff (t : Xt) (e : Xe) (r : Xs) | pass
mutual
inductive S where
  | asg (t : Tg) (e : E)
  | par (i j : Nat) (a b : E)
  | sfld (p : P) (f : Nat) (e : E)
  | six (p : P) (i : E) (e : E)
  | aug (i : Nat) (op : Op) (e : E)
  | augix (p : P) (i : E) (op : Op) (e : E)
  | augfld (p : P) (f : Nat) (op : Op) (e : E)
  | ex (e : E)
  | iff (t : T) (a b : Ss)
  | with_ (j i : Nat) (e : E) (body : Ss)
  | for_ (it : I) (tg : Tg) (body : Ss)
  | whl (t : T) (body : Ss)
  | ret (e : E) | retN
  | rs (c : Nat) (es : Es)
  | try_ (body : Ss) (hs : Hs)
  | brk | cnt | pass | never
inductive Ss where
  | nil | cons (s : S) (ss : Ss)
inductive Hs where
  | nil | cons (c : Nat) (i : Option Nat) (suite : Xs) (hs : Hs)
end

/-! ### the denotation -/
def bindT : Tg → D → Env → Option Env
  | .var i, d, ρ => some (ρ.set i d)
  | .tup ts, d, ρ => match d with
    | .tup xs => bindTs ts xs ρ
    | _ => none
where bindTs : Tgs → List D → Env → Option Env
  | .nil, [], ρ => some ρ
  | .cons t ts, x :: xs, ρ => match bindT t x ρ with
    | some ρ' => bindTs ts xs ρ'
    | none => none
  | _, _, _ => none

def Tgs.len : Tgs → Nat
  | .nil => 0
  | .cons _ ts => ts.len + 1
/-- what the denotation leans on: the defs; the module's constants; the fuel of a while -/
structure Cfg where
  fn : Nat → Fn
  gl : Nat → D
  sub : Nat → Nat → Bool
  fuel : Nat

/-- an expression's answer: a value, the slots where they have changed -/
abbrev RE := R (D × Option Env)
def now (ρ : Env) (o : Option Env) : Env := o.getD ρ
def orE (o2 o1 : Option Env) : Option Env := match o2 with
  | some ρ => some ρ
  | none => o1
/-- read, and keep -/
def keep (ρ : Env) (i : Nat) (π : List Nat) : RE := match getS ρ i π with
  | none => .stuck
  | some d => match sh d with
    | true => .ok (d, none)
    | false => match fzable d with
      | true => .ok (fz d, some (setS ρ i π (fz d)))
      | false => .stuck
def ofO (r : Option D) (o : Option Env) : RE := match r with
  | some d => .ok (d, o)
  | none => .stuck
def op2 (f : D → D → Option D) (a b : OV) (o1 o2 : Option Env) (ρ : Env) : RE :=
  match a.firm || o2.isNone with
  | false => .stuck
  | true => match a.rd (now (now ρ o1) o2), b.rd (now (now ρ o1) o2) with
    | some x, some y => ofO (f x y) (orE o2 o1)
    | _, _ => .stuck
def op1 (f : D → Option D) (a : OV) (o : Option Env) (ρ : Env) : RE := match a.rd (now ρ o) with
  | some x => ofO (f x) o
  | none => .stuck
/-- a slice's part -/
def optI : List D → Option (Option Int)
  | [] => some none
  | [.int i] => some (some i)
  | _ => none
/-- the middle of a chain: a scalar -/
def midD (a : OV) (ρ : Env) : R D := match a.rd ρ with
  | some y => match flat y with
    | true => .ok y
    | false => .stuck
  | none => .stuck
/-- an operand of a call is handed over: the value, the slot that is lent, the slots meanwhile -/
def takeV (ρ : Env) : OV → Option (D × Option Nat × Option Env)
  | .tm d => some (d, none, none)
  | .pl i π => match getS ρ i π with
    | none => none
    | some d => match sh d with
      | true => some (d, none, none)
      | false => match π with
        | [] => some (d, some i, some (ρ.set i .gone))
        | _ => none
def takeL : List OV → Env → Option (List D × List (Option Nat) × Option Env)
  | [], _ => some ([], [], none)
  | a :: as, ρ => match takeV ρ a with
    | none => none
    | some (d, b, o1) => match takeL as (now ρ o1) with
      | none => none
      | some (ds, bs, o2) => some (d :: ds, b :: bs, orE o2 o1)
/-- behind the call: what the lent objects have become -/
def giveL : List (Option Nat) → List D → Env → Env
  | some i :: bs, x :: xs, ρ => giveL bs xs (ρ.set i x)
  | none :: bs, _ :: xs, ρ => giveL bs xs ρ
  | _, _, ρ => ρ
def given (bs : List (Option Nat)) (outs : List D) (ρ : Env) (o : Option Env) : Option Env := match bs.any (·.isSome) with
  | true => some (giveL bs outs ρ)
  | false => o
def rdL (ρ : Env) : List OV → Option (List D)
  | [] => some []
  | a :: as => match a.rd ρ, rdL ρ as with
    | some d, some ds => some (d :: ds)
    | _, _ => none
def runF (f : Fn) (as : List OV) (ρ : Env) (o : Option Env) : RE :=
  match takeL as ρ with
  | none => .stuck
  | some (ds, bs, o1) => match f ds with
    | .ok d outs => .ok (d, given bs outs (now ρ o1) (orE o1 o))
    | .exc c d => .exc c d (now ρ o1)
    | .stuck => .stuck
def rngL (lo : Int) (n : Nat) : List D := match n with
  | 0 => []
  | n + 1 => .int lo :: rngL (lo + 1) n
def rngC (lo c : Int) (n : Nat) : List D := match n with
  | 0 => []
  | n + 1 => .int lo :: rngC (lo + c) c n
/-- -2^62 ≤ i < 2^62, told so that the kernel gets stuck soon -/
def okR : Int → Bool
  | .ofNat n => Nat.blt n 4611686018427387904
  | .negSucc n => Nat.blt n 4611686018427387904
theorem okR_eq (i : Int) : okR i = (decide (-two62 ≤ i) && decide (i < two62)) := by
  unfold two62
  cases i with
  | ofNat n =>
    simp only [okR]
    rw [Bool.eq_iff_iff]
    simp [Nat.blt]
    omega
  | negSucc n =>
    simp only [okR]
    rw [Bool.eq_iff_iff]
    simp [Nat.blt]
    omega
def rngCount (i j c : Int) : Nat := if 0 < c then ((j - i + c - 1).fdiv c).toNat else ((i - j + (-c) - 1).fdiv (-c)).toNat
def rngD : List D → Option (List D)
  | [.int j] => if okR j then some (rngL 0 j.toNat) else none
  | [.int i, .int j] => if okR i && okR j then some (rngL i (j - i).toNat) else none
  | [.int i, .int j, .int c] => if okR i && okR j && decide (c ≠ 0) && decide (c.natAbs < 1000000) then some (rngC i c (rngCount i j c)) else none
  | _ => none
def enumL : Int → List D → List D
  | _, [] => []
  | n, x :: xs => .tup [.int n, x] :: enumL (n + 1) xs
def zipL : List D → List D → List D
  | x :: xs, y :: ys => .tup [x, y] :: zipL xs ys
  | _, _ => []
def wipe (own : List Nat) (ρ : Env) : Env := match own with
  | [] => ρ
  | i :: r => (wipe r ρ).set i .gone
/-- the own slots as they were in ρ0 -/
def unwipe (own : List Nat) (ρ0 ρ : Env) : Env := match own with
  | [] => ρ
  | i :: r => unwipe r ρ0 (ρ.set i (slot ρ0 i))
def ownOk (own : List Nat) (ρ : Env) : Bool := own.all fun i => match slot ρ i with
  | .gone => true
  | d => sh d
/-- keep an operand's value -/
def keepO (ρ : Env) (o : Option Env) : OV → RE
  | .tm d => match soft d with
    | some d => .ok (d, o)
    | none => .stuck
  | .pl i π => (keep (now ρ o) i π).bind fun (d, o2) => .ok (d, orE o2 o)
/-- a comprehension's turns from the slots ρ (its own ones unknown): the list that is made; the slots where they have changed -/
def compL (turn : D → Env → R (List D × Option Env)) : List D → Env → Option Env → R (List D × Option Env)
  | [], _, o => .ok ([], o)
  | x :: xs, ρ, o => (turn x (now ρ o)).calm.bind fun (y, o1) => (compL turn xs ρ (orE o1 o)).bind fun (ys, o2) => .ok (y ++ ys, o2)
/-- the slots that a turn hands on: its own ones unknown again -/
def back (own : List Nat) (o : Option Env) : Option Env := o.map (wipe own)
def dputs (k : Bool) : List D → List D → D → Option D
  | x :: xs, y :: ys, d => match putD d x y with
    | some d' => dputs k xs ys d'
    | none => none
  | _, _, d => some d
def evens : List D → List D
  | x :: _ :: r => x :: evens r
  | _ => []
def odds : List D → List D
  | _ :: y :: r => y :: odds r
  | _ => []

def zipD : D → D → Option (List D)
  | .lst _ xs, .lst _ ys => if shL xs && shL ys then some (zipL xs ys) else none
  | .lst _ xs, .tup ys => if shL xs && shL ys then some (zipL xs ys) else none
  | .tup xs, .tup ys => if shL xs && shL ys then some (zipL xs ys) else none
  | .tup xs, .lst _ ys => if shL xs && shL ys then some (zipL xs ys) else none
  | _, _ => none
/-- the slot that is walked is out of reach meanwhile -/
def lockI : I → Env → Env
  | .lock i, ρ => ρ.set i .gone
  | _, ρ => ρ
def unlockI : I → Env → Env → Env
  | .lock i, ρ0, ρ => ρ.set i (slot ρ0 i)
  | _, _, ρ => ρ
/-- the slots behind a comprehension -/
def compO (it : I) (own : List Nat) (ρ1 : Env) (o : Option Env) : Option Env → Option Env
  | none => o
  | some r => some (unlockI it ρ1 (unwipe own (lockI it ρ1) r))
def fldS (f : Nat) (d : D) : Option D := match d with
  | .ins _ _ fs vs => match fldN f fs with
    | none => none
    | some n => match vs[n]? with
      | some c => if sh c then some c else none
      | none => none
  | _ => none
def negD : D → Option D
  | .int i => some (.int (-i))
  | _ => none
def invD : D → Option D
  | .int i => some (.int (-i - 1))
  | _ => none
def notD (d : D) : Option D := (truth d).map fun b => .bl (!b)
mutual
/-- a place: the slot and the path | a value on the way (a part of what is not owned) -/
def dP (C : Cfg) : P → Env → R (OV × Option Env)
  | .var i, ρ => match slot ρ i with
    | .gone => .stuck
    | _ => .ok (.pl i [], none)
  | .fld p f, ρ => (dP C p ρ).bind fun (a, o) => match a.rd (now ρ o) with
    | none => .stuck
    | some d => match d with
      | .ins _ _ fs vs => match fldN f fs with
        | none => .stuck
        | some n => match vs[n]? with
          | none => .stuck
          | some c => match sh c with
            | true => .ok (.tm c, o)
            | false => match a, kids d with
              | .pl i π, some _ => .ok (.pl i (π ++ [n]), o)
              | _, _ => .stuck
      | _ => .stuck
  | .ix p e, ρ => (dP C p ρ).bind fun (a, o) => (dE C e (now ρ o)).bind fun (k, o2) => match a.firm || o2.isNone with
    | false => .stuck
    | true => match a.rd (now (now ρ o) o2) with
      | none => .stuck
      | some d => match itemN d k with
        | none => .stuck
        | some n => match (kidsAny d)[n]? with
          | none => .stuck
          | some c => match sh c with
            | true => .ok (.tm c, orE o2 o)
            | false => match a, kids d with
              | .pl i π, some _ => .ok (.pl i (π ++ [n]), orE o2 o)
              | _, _ => .stuck
def dO (C : Cfg) : O → Env → R (OV × Option Env)
  | .pl p, ρ => dP C p ρ
  | .tm e, ρ => (dE C e ρ).bind fun (d, o) => .ok (.tm d, o)
def dOs (C : Cfg) : Os → Env → R (List OV × Option Env)
  | .nil, _ => .ok ([], none)
  | .cons a as, ρ => (dO C a ρ).bind fun (x, o) => (dOs C as (now ρ o)).bind fun (xs, o2) => match x.firm || o2.isNone with
    | false => .stuck
    | true => .ok (x :: xs, orE o2 o)
def dEs (C : Cfg) : Es → Env → R (List D × Option Env)
  | .nil, _ => .ok ([], none)
  | .cons e es, ρ => (dE C e ρ).bind fun (x, o) => (dEs C es (now ρ o)).bind fun (xs, o2) => .ok (x :: xs, orE o2 o)
def dT (C : Cfg) : T → Env → R (Bool × Option Env)
  | .tr a, ρ => (dO C a ρ).bind fun (x, o) => match x.rd (now ρ o) with
    | none => .stuck
    | some d => match truth d with
      | some b => .ok (b, o)
      | none => .stuck
  | .cmp op a b, ρ => (dO C a ρ).bind fun (x, o1) => (dO C b (now ρ o1)).bind fun (y, o2) => (op2 (cmpD op) x y o1 o2 ρ).bind fun (d, o) => match d with
    | .bl b => .ok (b, o)
    | _ => .stuck
  | .chain op op' a b c, ρ => (dO C a ρ).bind fun (x, o1) => (dO C b (now ρ o1)).bind fun (y, o2) => (midD y (now (now ρ o1) o2)).bind fun y' => (op2 (cmpD op) x y o1 o2 ρ).bind fun (d, o) => match d with
    | .bl false => .ok (false, o)
    | .bl true => (dO C c (now ρ o)).bind fun (z, o3) => (op2 (cmpD op') (.tm y') z o o3 ρ).bind fun (d', o') => match d' with
      | .bl b => .ok (b, o')
      | _ => .stuck
    | _ => .stuck
  | .and a b, ρ => (dT C a ρ).bind fun (x, o) => match x with
    | false => .ok (false, o)
    | true => (dT C b (now ρ o)).bind fun (y, o2) => .ok (y, orE o2 o)
  | .or a b, ρ => (dT C a ρ).bind fun (x, o) => match x with
    | true => .ok (true, o)
    | false => (dT C b (now ρ o)).bind fun (y, o2) => .ok (y, orE o2 o)
  | .not a, ρ => (dT C a ρ).bind fun (x, o) => .ok (!x, o)
def dE (C : Cfg) : E → Env → RE
  | .non, _ => .ok (.non, none)
  | .bl b, _ => .ok (.bl b, none)
  | .int i, _ => .ok (.int i, none)
  | .str s, _ => .ok (.str s, none)
  | .glob k, _ => .ok (C.gl k, none)
  | .rd p, ρ => (dP C p ρ).bind fun (a, o) => match a with
    | .tm d => .ok (d, o)
    | .pl i π => (keep (now ρ o) i π).bind fun (d, o2) => .ok (d, orE o2 o)
  | .mv i, ρ => match slot ρ i with
    | .gone => .stuck
    | d => match sh d with
      | true => .ok (d, none)
      | false => .ok (d, some (ρ.set i .gone))
  | .frz e, ρ => (dE C e ρ).bind fun (d, o) => match fzable d with
    | true => .ok (fz d, o)
    | false => .stuck
  | .bin op a b, ρ => (dO C a ρ).bind fun (x, o1) => (dO C b (now ρ o1)).bind fun (y, o2) => op2 (binD op) x y o1 o2 ρ
  | .neg a, ρ => (dO C a ρ).bind fun (x, o) => op1 negD x o ρ
  | .inv a, ρ => (dO C a ρ).bind fun (x, o) => op1 invD x o ρ
  | .cmp op a b, ρ => (dO C a ρ).bind fun (x, o1) => (dO C b (now ρ o1)).bind fun (y, o2) => op2 (cmpD op) x y o1 o2 ρ
  | .chain op op' a b c, ρ => (dO C a ρ).bind fun (x, o1) => (dO C b (now ρ o1)).bind fun (y, o2) => (midD y (now (now ρ o1) o2)).bind fun y' => (op2 (cmpD op) x y o1 o2 ρ).bind fun (d, o) => match d with
    | .bl false => .ok (.bl false, o)
    | .bl true => (dO C c (now ρ o)).bind fun (z, o3) => (op2 (cmpD op') (.tm y') z o o3 ρ).bind fun (d', o') => .ok (d', o')
    | _ => .stuck
  | .andv a b, ρ => (dE C a ρ).bind fun (x, o) => match x with
    | .bl false => .ok (.bl false, o)
    | .bl true => (dE C b (now ρ o)).bind fun (y, o2) => .ok (y, orE o2 o)
    | _ => .stuck
  | .orv a b, ρ => (dE C a ρ).bind fun (x, o) => match x with
    | .bl true => .ok (.bl true, o)
    | .bl false => (dE C b (now ρ o)).bind fun (y, o2) => .ok (y, orE o2 o)
    | _ => .stuck
  | .notv a, ρ => (dO C a ρ).bind fun (x, o) => op1 notD x o ρ
  | .ife t a b, ρ => (dT C t ρ).bind fun (x, o) => match x with
    | true => (dE C a (now ρ o)).bind fun (y, o2) => .ok (y, orE o2 o)
    | false => (dE C b (now ρ o)).bind fun (y, o2) => .ok (y, orE o2 o)
  | .sub a i, ρ => (dO C a ρ).bind fun (x, o1) => (dO C i (now ρ o1)).bind fun (y, o2) => op2 itemD x y o1 o2 ρ
  | .slc a lo hi k, ρ => (dO C a ρ).bind fun (x, o1) => (dEs C lo (now ρ o1)).bind fun (l, o2) => match optI l with
    | none => .stuck
    | some l => (dEs C hi (now (now ρ o1) o2)).bind fun (h, o3) => match optI h with
      | none => .stuck
      | some h => match x.firm || (o2.isNone && o3.isNone) with
        | false => .stuck
        | true => match x.rd (now (now (now ρ o1) o2) o3) with
          | none => .stuck
          | some d => ofO (cutD d l h) (orE o3 (orE o2 o1))
  | .rev a, ρ => (dO C a ρ).bind fun (x, o) => op1 revD x o ρ
  | .lst es, ρ => (dEs C es ρ).bind fun (xs, o) => if xs.length ≤ line then .ok (.lst true xs, o) else .stuck
  | .tup es, ρ => (dEs C es ρ).bind fun (xs, o) => if xs.length ≤ line then .ok (.tup xs, o) else .stuck
  | .dnew k, _ => .ok (.dct true k [] [], none)
  | .dd1 ke ve, ρ => (dE C ke ρ).bind fun (x, o) => (dE C ve (now ρ o)).bind fun (y, o2) => match keyOk true x with
    | true => .ok (.dct true true [x] [y], orE o2 o)
    | false => .stuck
  | .blt b os, ρ => (dOs C os ρ).bind fun (xs, o) => match rdL (now ρ o) xs with
    | none => .stuck
    | some ds => ofO (blD b ds) o
  | .call f os, ρ => (dOs C os ρ).bind fun (xs, o) => runF (C.fn f) xs (now ρ o) o
  | .make f c z os, ρ => (dOs C os ρ).bind fun (xs, o) => match takeL xs (now ρ o) with
    | none => .stuck
    | some (ds, bs, o1) => match C.fn f (.ins true c [] [] :: ds) with
      | .ok .non (x :: outs) => match z with
        | true => match fzable x with
          | true => .ok (fz x, given bs outs (now (now ρ o) o1) (orE o1 o))
          | false => .stuck
        | false => .ok (x, given bs outs (now (now ρ o) o1) (orE o1 o))
      | .ok _ _ => .stuck
      | .exc c d => .exc c d (now (now ρ o) o1)
      | .stuck => .stuck
  | .meth f c a os, ρ => (dO C a ρ).bind fun (x, o) => match x.rd (now ρ o) with
    | some (.ins _ c' _ _) => match decide (c = c') with
      | true => (dOs C os (now ρ o)).bind fun (xs, o2) => match x.firm || o2.isNone with
        | false => .stuck
        | true => runF (C.fn f) (x :: xs) (now (now ρ o) o2) (orE o2 o)
      | false => .stuck
    | _ => .stuck
  | .bm m p es, ρ => (dP C p ρ).bind fun (a, o) => match a with
    | .tm _ => .stuck
    | .pl i π => match (getS (now ρ o) i π).bind bmTy with
      | none => .stuck
      | some t => match decide (t = bmFor m) with
        | false => .stuck
        | true => (dEs C es (now ρ o)).bind fun (xs, o2) => match a.firm || o2.isNone with
          | false => .stuck
          | true => match getS (now (now ρ o) o2) i π with
            | none => .stuck
            | some d => match bmD m d xs with
              | some (y, d') => .ok (y, some (setS (now (now ρ o) o2) i π d'))
              | none => .stuck
  | .fldv a f, ρ => (dO C a ρ).bind fun (x, o) => op1 (fldS f) x o ρ
  | .rng os, ρ => (dOs C os ρ).bind fun (xs, o) => match rdL (now ρ o) xs with
    | none => .stuck
    | some ds => match rngD ds with
      | none => .stuck
      | some r => if r.length ≤ line then .ok (.lst true r, o) else .stuck
  | .lc it tg own cs elt, ρ => (dI C it ρ).bind fun (xs, o) => match ownOk own (lockI it (now ρ o)) with
    | false => .stuck
    | true => (compL (fun x r => match bindT tg x r with
      | none => .stuck
      | some r1 => (dCs C cs r1).bind fun (b, o1) => match b with
        | false => .ok ([], back own o1)
        | true => (dE C elt (now r1 o1)).bind fun (y, o2) => .ok ([y], back own (orE o2 o1))) xs (wipe own (lockI it (now ρ o))) none).bind fun (ys, o3) =>
    if ys.length ≤ line then .ok (.lst true ys, compO it own (now ρ o) o o3) else .stuck
  | .lc2 it tg own cs it2 tg2 own2 cs2 elt, ρ => (dI C it ρ).bind fun (xs, o) => match ownOk own (lockI it (now ρ o)) with
    | false => .stuck
    | true => (compL (fun x r => match bindT tg x r with
      | none => .stuck
      | some r1 => (dCs C cs r1).bind fun (b, o1) => match b with
        | false => .ok ([], back own o1)
        | true => (dI C it2 (now r1 o1)).bind fun (xs2, o2) => (compL (fun x2 r2 => match bindT tg2 x2 r2 with
            | none => .stuck
            | some r3 => (dCs C cs2 r3).bind fun (b2, o3) => match b2 with
              | false => .ok ([], back own2 o3)
              | true => (dE C elt (now r3 o3)).bind fun (y, o4) => .ok ([y], back own2 (orE o4 o3))) xs2 (wipe own2 (now (now r1 o1) o2)) none).bind fun (ys, o5) =>
          .ok (ys, back own (orE o5 (orE o2 o1)))) xs (wipe own (lockI it (now ρ o))) none).bind fun (ys, o6) =>
    if ys.length ≤ line then .ok (.lst true ys, compO it own (now ρ o) o o6) else .stuck
  | .dc k it tg own cs ke ve, ρ => (dI C it ρ).bind fun (xs, o) => match ownOk own (lockI it (now ρ o)) with
    | false => .stuck
    | true => (compL (fun x r => match bindT tg x r with
      | none => .stuck
      | some r1 => (dCs C cs r1).bind fun (b, o1) => match b with
        | false => .ok ([], back own o1)
        | true => (dE C ke (now r1 o1)).bind fun (y, o2) => (dE C ve (now (now r1 o1) o2)).bind fun (z, o3) => .ok ([y, z], back own (orE o3 (orE o2 o1)))) xs (wipe own (lockI it (now ρ o))) none).bind fun (ys, o3) =>
    match dputs k (evens ys) (odds ys) (.dct true k [] []) with
    | none => .stuck
    | some d => .ok (d, compO it own (now ρ o) o o3)
def dCs (C : Cfg) : Cs → Env → R (Bool × Option Env)
  | .nil, _ => .ok (true, none)
  | .one t, ρ => dT C t ρ
def dI (C : Cfg) : I → Env → R (List D × Option Env)
  | .seq a, ρ => (dO C a ρ).bind fun (x, o) => (keepO ρ o x).bind fun (d, o) => match seqOf d with
    | some xs => match shL xs with
      | true => .ok (xs, o)
      | false => .stuck
    | none => .stuck
  | .lock i, ρ => match seqOf (slot ρ i) with
    | some xs => match shL xs with
      | true => .ok (xs, none)
      | false => match fzableL xs with
        | true => .ok (fzL xs, some (ρ.set i (fz (slot ρ i))))
        | false => .stuck
    | none => .stuck
  | .rng1 a, ρ => (dO C a ρ).bind fun (x, o) => match x.rd (now ρ o) with
    | some (.int j) => R.of ((rngD [.int j]).map fun r => (r, o))
    | _ => .stuck
  | .rng2 a b, ρ => (dO C a ρ).bind fun (x, o1) => (dO C b (now ρ o1)).bind fun (y, o2) => match x.firm || o2.isNone with
    | false => .stuck
    | true => match x.rd (now (now ρ o1) o2), y.rd (now (now ρ o1) o2) with
      | some (.int i), some (.int j) => R.of ((rngD [.int i, .int j]).map fun r => (r, orE o2 o1))
      | _, _ => .stuck
  | .rng3 a b c, ρ => (dO C a ρ).bind fun (x, o1) => (dO C b (now ρ o1)).bind fun (y, o2) => (dO C c (now (now ρ o1) o2)).bind fun (z, o3) => match (x.firm && y.firm) || (o2.isNone && o3.isNone) with
    | false => .stuck
    | true => match x.rd (now (now (now ρ o1) o2) o3), y.rd (now (now (now ρ o1) o2) o3), z.rd (now (now (now ρ o1) o2) o3) with
      | some (.int i), some (.int j), some (.int k) => R.of ((rngD [.int i, .int j, .int k]).map fun r => (r, orE o3 (orE o2 o1)))
      | _, _, _ => .stuck
  | .enum a, ρ => (dO C a ρ).bind fun (x, o) => (keepO ρ o x).bind fun (d, o) => match d with
    | .lst _ xs => match shL xs with
      | true => .ok (enumL 0 xs, o)
      | false => .stuck
    | _ => .stuck
  | .zip a b, ρ => (dO C a ρ).bind fun (x, o) => (keepO ρ o x).bind fun (d, o) => (dO C b (now ρ o)).bind fun (y, o2) => (keepO (now ρ o) o2 y).bind fun (e, o2) => R.of ((zipD d e).map fun r => (r, orE o2 o))
  | .items a, ρ => (dO C a ρ).bind fun (x, o) => (keepO ρ o x).bind fun (d, o) => match d with
    | .dct _ _ ks vs => .ok (zipL ks vs, o)
    | _ => .stuck
  | .keys a, ρ => (dO C a ρ).bind fun (x, o) => (keepO ρ o x).bind fun (d, o) => match d with
    | .dct _ _ ks _ => .ok (ks, o)
    | _ => .stuck
  | .vals a, ρ => (dO C a ρ).bind fun (x, o) => (keepO ρ o x).bind fun (d, o) => match d with
    | .dct _ _ _ vs => .ok (vs, o)
    | _ => .stuck
  | .revs a, ρ => (dO C a ρ).bind fun (x, o) => (keepO ρ o x).bind fun (d, o) => match seqOf d with
    | some xs => .ok (xs.reverse, o)
    | none => .stuck
end

/-- a statement's answer -/
inductive SR where
  | nx (ρ : Env) | ret (d : D) (ρ : Env) | bk (ρ : Env) | ct (ρ : Env) | exc (c : Nat) (d : D) (ρ : Env) | stuck
  deriving Inhabited
def R.then {α : Type} (r : R α) (f : α → SR) : SR := match r with
  | .ok a => f a
  | .exc c d ρ => .exc c d ρ
  | .stuck => .stuck
def SR.seq (r : SR) (f : Env → SR) : SR := match r with
  | .nx ρ => f ρ
  | r => r
def SR.mapE (g : Env → Env) : SR → SR
  | .nx ρ => .nx (g ρ)
  | .ret d ρ => .ret d (g ρ)
  | .bk ρ => .bk (g ρ)
  | .ct ρ => .ct (g ρ)
  | .exc c d ρ => .exc c d (g ρ)
  | .stuck => .stuck
def loopF (turn : D → Env → SR) : List D → Env → SR
  | [], ρ => .nx ρ
  | x :: xs, ρ => match turn x ρ with
    | .nx ρ' => loopF turn xs ρ'
    | .ct ρ' => loopF turn xs ρ'
    | .bk ρ' => .nx ρ'
    | r => r
def loopW (test : Env → R (Bool × Option Env)) (body : Env → SR) : Nat → Env → SR
  | 0, _ => .stuck
  | n + 1, ρ => (test ρ).then fun (b, o) => match b with
    | false => .nx (now ρ o)
    | true => match body (now ρ o) with
      | .nx ρ' => loopW test body n ρ'
      | .ct ρ' => loopW test body n ρ'
      | .bk ρ' => .nx ρ'
      | r => r
def dXe (C : Cfg) (c : Nat) (d : D) : Xe → Option D
  | .what => some d
  | .str s => some (.str s)
  | .bl b => some (.bl b)
  | .pair a b => match dXe C c d a, dXe C c d b with
    | some x, some y => some (.tup [x, y])
    | _, _ => none
  | .eqs s => match d with
    | .str t => some (.bl (decide (t = s)))
    | .int _ => some (.bl false)
    | _ => none
  | .isx c' => some (.bl (C.sub c c'))
def dXt (C : Cfg) (c : Nat) : Xt → Bool
  | .isx c' => C.sub c c'
  | .and a b => dXt C c a && dXt C c b
  | .not a => !dXt C c a
def dXs (C : Cfg) (c : Nat) (d : D) : Xs → Env → SR
  | .ret e, ρ => match dXe C c d e with
    | some x => .ret x ρ
    | none => .stuck
  | .app i e, ρ => match dXe C c d e, slot ρ i with
    | some x, .lst true xs => if decide (xs.length < line) then .nx (ρ.set i (.lst true (xs ++ [x]))) else .stuck
    | _, _ => .stuck
  | .iff t e r, ρ => match dXt C c t with
    | true => match dXe C c d e with
      | some x => .ret x ρ
      | none => .stuck
    | false => dXs C c d r ρ
  | .pass, ρ => .nx ρ
def storeI (ρ : Env) (i : Nat) (π : List Nat) (k x : D) : SR := match getS ρ i π with
  | none => .stuck
  | some d => match putD d k x with
    | some d' => .nx (setS ρ i π d')
    | none => .stuck
def storeF (ρ : Env) (i : Nat) (π : List Nat) (f : Nat) (x : D) : SR := match getS ρ i π with
  | none => .stuck
  | some d => match putF d f x with
    | some d' => .nx (setS ρ i π d')
    | none => .stuck
def fldD (f : Nat) (d : D) : Option D := match d with
  | .ins _ _ fs vs => match fldN f fs with
    | none => none
    | some n => vs[n]?
  | _ => none
/-- the list at a place of the slot i, which is out of reach while the slot j holds its part -/
def takeW (ρ : Env) (j i i' : Nat) (π : List Nat) : Option (Nat × List D) := match decide (i = i') && decide (i ≠ j) with
  | true => match slot ρ i, π with
    | .lst true xs, [n] => match xs[n]? with
      | some (.lst true ys) => some (n, ys)
      | _ => none
    | _, _ => none
  | false => none
def giveW (ρ : Env) (j i n : Nat) : SR → SR
  | .nx ρ' => match slot ρ i, slot ρ' j with
    | .lst true xs, .lst true ys => .nx ((ρ'.set j .gone).set i (.lst true (xs.set n (.lst true ys))))
    | _, _ => .stuck
  | _ => .stuck
mutual
def dS (C : Cfg) : S → Env → SR
  | .asg t e, ρ => (dE C e ρ).then fun (d, o) => match bindT t d (now ρ o) with
    | some ρ' => .nx ρ'
    | none => .stuck
  | .par i j a b, ρ => (dE C a ρ).then fun (x, o) => (dE C b (now ρ o)).then fun (y, o2) => .nx (((now (now ρ o) o2).set i x).set j y)
  | .sfld p f e, ρ => (dE C e ρ).then fun (x, o) => (dP C p (now ρ o)).then fun (a, o2) => match a with
    | .tm _ => .stuck
    | .pl i π => storeF (now (now ρ o) o2) i π f x
  | .six p k e, ρ => (dE C e ρ).then fun (x, o) => (dP C p (now ρ o)).then fun (a, o2) => (dE C k (now (now ρ o) o2)).then fun (y, o3) => match a.firm || o3.isNone with
    | false => .stuck
    | true => match a with
      | .tm _ => .stuck
      | .pl i π => storeI (now (now (now ρ o) o2) o3) i π y x
  | .aug i op e, ρ => match slot ρ i with
    | .int a => (dE C e ρ).then fun (y, o) => match y with
      | .int b => match binI op a b with
        | some d => .nx ((now ρ o).set i d)
        | none => .stuck
      | _ => .stuck
    | _ => .stuck
  | .augix p k op e, ρ => (dP C p ρ).then fun (a, o) => (dE C k (now ρ o)).then fun (y, o2) => match a with
    | .tm _ => .stuck
    | .pl i π => match (OV.pl i π).firm || o2.isNone with
      | false => .stuck
      | true => match getS (now (now ρ o) o2) i π with
        | none => .stuck
        | some d => match itemA d y with
          | none => .stuck
          | some u => (dE C e (now (now ρ o) o2)).then fun (z, o3) => match (OV.pl i π).firm || o3.isNone with
            | false => .stuck
            | true => match z with
              | .int v => match binI op u v with
                | some w => storeI (now (now (now ρ o) o2) o3) i π y w
                | none => .stuck
              | _ => .stuck
  | .augfld p f op e, ρ => (dP C p ρ).then fun (a, o) => match a with
    | .tm _ => .stuck
    | .pl i π => match (getS (now ρ o) i π).bind (fldD f) with
      | some (.int u) => (dE C e (now ρ o)).then fun (z, o3) => match a.firm || o3.isNone, z with
        | true, .int v => match binI op u v with
          | some w => storeF (now (now ρ o) o3) i π f w
          | none => .stuck
        | _, _ => .stuck
      | _ => .stuck
  | .ex e, ρ => (dE C e ρ).then fun (_, o) => .nx (now ρ o)
  | .iff t a b, ρ => (dT C t ρ).then fun (x, o) => match x with
    | true => dSs C a (now ρ o)
    | false => dSs C b (now ρ o)
  | .with_ j i e body, ρ => (dP C (.ix (.var i) e) ρ).then fun (a, o) => match a with
    | .tm _ => .stuck
    | .pl i' π => match takeW (now ρ o) j i i' π with
      | none => .stuck
      | some (n, ys) => giveW (now ρ o) j i n (dSs C body (((now ρ o).set i .gone).set j (.lst true ys)))
  | .for_ it tg body, ρ => (dI C it ρ).then fun (xs, o) => (loopF (fun x r => match bindT tg x r with
      | none => .stuck
      | some r1 => dSs C body r1) xs (lockI it (now ρ o))).mapE (unlockI it (now ρ o))
  | .whl t body, ρ => loopW (dT C t) (dSs C body) C.fuel ρ
  | .ret e, ρ => (dE C e ρ).then fun (d, o) => .ret d (now ρ o)
  | .retN, ρ => .ret .non ρ
  | .rs c es, ρ => (dEs C es ρ).then fun (xs, o) => match xs with
    | [.str z] => match decide (z.length ≤ 1000) with
      | true => .exc c (.str z) (now ρ o)
      | false => .stuck
    | _ => .stuck
  | .try_ body hs, ρ => match dSs C body ρ with
    | .exc c d ρ' => dHs C hs c d ρ'
    | r => r
  | .brk, ρ => .bk ρ
  | .cnt, ρ => .ct ρ
  | .pass, ρ => .nx ρ
  | .never, _ => .stuck
def dSs (C : Cfg) : Ss → Env → SR
  | .nil, ρ => .nx ρ
  | .cons s ss, ρ => (dS C s ρ).seq fun ρ' => dSs C ss ρ'
def dHs (C : Cfg) : Hs → Nat → D → Env → SR
  | .nil, c, d, ρ => .exc c d ρ
  | .cons c' i suite hs, c, d, ρ => match C.sub c c' with
    | true => match i with
      | some i => (dXs C c d suite (ρ.set i .gone)).mapE fun r => r.set i .gone
      | none => dXs C c d suite ρ
    | false => dHs C hs c d ρ
end
/-- a def: its slots, its parameters (false: it may be given another value), its body -/
structure Df where
  slots : Nat
  prot : List Bool
  body : Ss
def outsOf : List Bool → Env → List D
  | [], _ => []
  | b :: bs, d :: ρ => (match b with
    | true => d
    | false => .gone) :: outsOf bs ρ
  | _ :: bs, [] => .gone :: outsOf bs []
def dF (C : Cfg) (f : Df) : Fn := fun ds => match decide (ds.length = f.prot.length) with
  | false => .stuck
  | true => match dSs C f.body (ds ++ List.replicate (f.slots - ds.length) .gone) with
    | .nx ρ => .ok .non (outsOf f.prot ρ)
    | .ret d ρ => .ok d (outsOf f.prot ρ)
    | .exc c d _ => .exc c d
    | _ => .stuck
end Mp
/-! How plain data stand in the abstract heap. G: the ground, what is never changed again; H: the heap; F: the addresses of owned objects. -/
namespace Mp
open PySem L2

/-- every tracked thing stays -/
def Ext (G H : Hp) : Prop := ∀ a o, G a = some o → H a = some o
theorem Ext.refl (G : Hp) : Ext G G := fun _ _ h => h
theorem Ext.trans {A B C : Hp} (x : Ext A B) (y : Ext B C) : Ext A C := fun a o h => y a o (x a o h)
theorem Ext.back {G H : Hp} (x : Ext G H) {a : Addr} (h : H a = none) : G a = none := by
  cases q : G a with
  | none => rfl
  | some o => rw [x a o q] at h; cases h
theorem Ext.rd {G H : Hp} (x : Ext G H) {a : Addr} {u : HO} (h : Rd G a u) : Rd H a u := by
  rcases h with h | ⟨o, h⟩
  · exact .inl (x _ _ h)
  · exact .inr ⟨o, x _ _ h⟩
theorem Ext.sqL {K : PySem.W.Frag} {G H : Hp} (x : Ext G H) {a : Addr} {vs : List V} (h : SqL K G a vs) : SqL K H a vs := by
  rcases h with h | h
  · exact .inl (x.rd h)
  · exact .inr h
theorem Ext.sqT {K : PySem.W.Frag} {G H : Hp} (x : Ext G H) {a : Addr} {vs : List V} (h : SqT K G a vs) : SqT K H a vs := by
  rcases h with h | h
  · exact .inl (x.rd h)
  · exact .inr h
theorem Ext.new {H : Hp} {p : Addr} {o : HO} (h : H p = .none) : Ext H (upd H p o) := fun a u e => by
  rw [upd_ne (ne_of_none e h)]; exact e

/-- what is fixed for a law: the written part, the own classes, the fields' names, the exceptions -/
structure Tab where
  K : PySem.W.Frag
  ca : Nat → Addr
  fnm : Nat → Str
  nf : Nat
  inj : ∀ f g, f < nf → g < nf → fnm f = fnm g → f = g
  xa : Nat → Addr
  xf : Nat → Str
  nx : Nat

def keyD : Key → D
  | .inl i => .int i
  | .inr x => .str x

section
variable (T : Tab) (G H : Hp)
mutual
def Rp : D → V → List Addr → Prop
  | .non, v, F => v = .non ∧ F = []
  | .bl b, v, F => v = .bl b ∧ F = []
  | .int i, v, F => v = .int i ∧ F = []
  | .str s, v, F => v = .str s ∧ F = []
  | .tup xs, v, F => ∃ p vs, v = .ref p ∧ SqT T.K G p vs ∧ RpL xs vs F
  | .scr ns, v, F => (∃ p, v = .ref p ∧ SqL T.K G p (ns.map V.int)) ∧ F = []
  | .lst false xs, v, F => ∃ p vs, v = .ref p ∧ G p = some (.lst vs) ∧ RpL xs vs [] ∧ F = []
  | .lst true xs, v, F => ∃ p vs F', v = .ref p ∧ H p = some (.lst vs) ∧ RpL xs vs F' ∧ F = p :: F'
  | .dct o k ks ds, v, F => k = true ∧ ∃ p kvs F', v = .ref p ∧ ks = kvs.map (fun q => keyD q.1) ∧ RpL ds (kvs.map (·.2)) F' ∧ (kvs.map (·.1)).Nodup ∧ kvs.length ≤ sizeLine ∧
      (match o with
        | true => H p = some (.dK kvs) ∧ F = p :: F'
        | false => G p = some (.dK kvs) ∧ F' = [] ∧ F = [])
  | .ins o c fs ds, v, F => ∃ p dx vs F', v = .ref p ∧ RpL ds vs F' ∧ fs.length = ds.length ∧ fs.Nodup ∧ (∀ f ∈ fs, f < T.nf) ∧ p ≠ dx ∧
      (match o with
        | true => H p = some (.ins (T.ca c) dx ((fs.map T.fnm).zip vs)) ∧ H dx = some (.own p) ∧ F = p :: dx :: F'
        | false => G p = some (.ins (T.ca c) dx ((fs.map T.fnm).zip vs)) ∧ G dx = some (.own p) ∧ F' = [] ∧ F = [])
  | .gone, _, F => F = []
def RpL : List D → List V → List Addr → Prop
  | [], vs, F => vs = [] ∧ F = []
  | x :: xs, vs, F => ∃ v ws F1 F2, vs = v :: ws ∧ F = F1 ++ F2 ∧ Rp x v F1 ∧ RpL xs ws F2
end
end

section
variable {T : Tab} {G G' H H' : Hp}
theorem RpL.length : ∀ {xs : List D} {vs : List V} {F : List Addr}, RpL T G H xs vs F → vs.length = xs.length
  | [], vs, F, h => by obtain ⟨rfl, _⟩ := h; rfl
  | x :: xs, vs, F, h => by
    obtain ⟨v, ws, F1, F2, rfl, _, _, h2⟩ := h
    simp only [List.length_cons]
    rw [RpL.length h2]
mutual
theorem Rp.mono (hg : Ext G G') : ∀ (d : D) (v : V) (F : List Addr), Rp T G H d v F → (∀ a ∈ F, ∀ o, H a = some o → H' a = some o) → Rp T G' H' d v F
  | .non, v, F, h, _ => h
  | .bl b, v, F, h, _ => h
  | .int i, v, F, h, _ => h
  | .str s, v, F, h, _ => h
  | .scr ns, v, F, h, _ => by
    obtain ⟨⟨p, e, q⟩, ef⟩ := h
    exact ⟨⟨p, e, hg.sqL q⟩, ef⟩
  | .tup xs, v, F, h, k => by
    obtain ⟨p, vs, e, q, r⟩ := h
    exact ⟨p, vs, e, hg.sqT q, RpL.mono hg xs vs F r k⟩
  | .lst false xs, v, F, h, k => by
    obtain ⟨p, vs, e, q, r, ef⟩ := h
    exact ⟨p, vs, e, hg _ _ q, RpL.mono hg xs vs [] r (fun _ z => nomatch z), ef⟩
  | .lst true xs, v, F, h, k => by
    obtain ⟨p, vs, F', e, q, r, ef⟩ := h
    subst ef
    exact ⟨p, vs, F', e, k p List.mem_cons_self _ q, RpL.mono hg xs vs F' r (fun a ha => k a (List.mem_cons_of_mem _ ha)), rfl⟩
  | .dct o b ks ds, v, F, h, k => by
    obtain ⟨eb, p, kvs, F', e, ek, r, nd, hz, q⟩ := h
    cases o with
    | true =>
      obtain ⟨q, ef⟩ := q
      subst ef
      exact ⟨eb, p, kvs, F', e, ek, RpL.mono hg ds _ F' r (fun a ha => k a (List.mem_cons_of_mem _ ha)), nd, hz, k p List.mem_cons_self _ q, rfl⟩
    | false =>
      obtain ⟨q, e1, ef⟩ := q
      subst e1
      exact ⟨eb, p, kvs, [], e, ek, RpL.mono hg ds _ [] r (fun _ z => nomatch z), nd, hz, hg _ _ q, rfl, ef⟩
  | .ins o c fs ds, v, F, h, k => by
    obtain ⟨p, dx, vs, F', e, r, l, nd, lt, ne, q⟩ := h
    cases o with
    | true =>
      obtain ⟨q1, q2, ef⟩ := q
      subst ef
      exact ⟨p, dx, vs, F', e, RpL.mono hg ds vs F' r (fun a ha => k a (List.mem_cons_of_mem _ (List.mem_cons_of_mem _ ha))), l, nd, lt, ne, k p List.mem_cons_self _ q1, k dx (List.mem_cons_of_mem _ List.mem_cons_self) _ q2, rfl⟩
    | false =>
      obtain ⟨q1, q2, e1, ef⟩ := q
      subst e1
      exact ⟨p, dx, vs, [], e, RpL.mono hg ds vs [] r (fun _ z => nomatch z), l, nd, lt, ne, hg _ _ q1, hg _ _ q2, rfl, ef⟩
  | .gone, v, F, h, _ => h
theorem RpL.mono (hg : Ext G G') : ∀ (xs : List D) (vs : List V) (F : List Addr), RpL T G H xs vs F → (∀ a ∈ F, ∀ o, H a = some o → H' a = some o) → RpL T G' H' xs vs F
  | [], vs, F, h, _ => h
  | x :: xs, vs, F, h, k => by
    obtain ⟨v, ws, F1, F2, e, ef, r1, r2⟩ := h
    subst ef
    exact ⟨v, ws, F1, F2, e, rfl, Rp.mono hg x v F1 r1 (fun a ha => k a (List.mem_append_left _ ha)), RpL.mono hg xs ws F2 r2 (fun a ha => k a (List.mem_append_right _ ha))⟩
end
/-- owned objects are tracked -/
def Trk (H : Hp) (F : List Addr) : Prop := ∀ a ∈ F, ∃ o, H a = some o
mutual
theorem Rp.trk : ∀ (d : D) (v : V) (F : List Addr), Rp T G H d v F → Trk H F
  | .non, v, F, h => by obtain ⟨_, rfl⟩ := h; exact fun _ z => nomatch z
  | .bl b, v, F, h => by obtain ⟨_, rfl⟩ := h; exact fun _ z => nomatch z
  | .int i, v, F, h => by obtain ⟨_, rfl⟩ := h; exact fun _ z => nomatch z
  | .str s, v, F, h => by obtain ⟨_, rfl⟩ := h; exact fun _ z => nomatch z
  | .scr s, v, F, h => by obtain ⟨_, rfl⟩ := h; exact fun _ z => nomatch z
  | .tup xs, v, F, h => by
    obtain ⟨p, vs, e, q, r⟩ := h
    exact RpL.trk xs vs F r
  | .lst false xs, v, F, h => by
    obtain ⟨p, vs, e, q, r, ef⟩ := h
    subst ef
    exact fun _ z => nomatch z
  | .lst true xs, v, F, h => by
    obtain ⟨p, vs, F', e, q, r, ef⟩ := h
    subst ef
    intro a ha
    rcases List.mem_cons.mp ha with rfl | ha
    · exact ⟨_, q⟩
    · exact RpL.trk xs vs F' r a ha
  | .dct o b ks ds, v, F, h => by
    obtain ⟨eb, p, kvs, F', e, ek, r, nd, hz, q⟩ := h
    cases o with
    | true =>
      obtain ⟨q, ef⟩ := q
      subst ef
      intro a ha
      rcases List.mem_cons.mp ha with rfl | ha
      · exact ⟨_, q⟩
      · exact RpL.trk ds _ F' r a ha
    | false =>
      obtain ⟨q, e1, ef⟩ := q
      subst ef
      exact fun _ z => nomatch z
  | .ins o c fs ds, v, F, h => by
    obtain ⟨p, dx, vs, F', e, r, l, nd, lt, ne, q⟩ := h
    cases o with
    | true =>
      obtain ⟨q1, q2, ef⟩ := q
      subst ef
      intro a ha
      rcases List.mem_cons.mp ha with rfl | ha
      · exact ⟨_, q1⟩
      · rcases List.mem_cons.mp ha with rfl | ha
        · exact ⟨_, q2⟩
        · exact RpL.trk ds vs F' r a ha
    | false =>
      obtain ⟨q1, q2, e1, ef⟩ := q
      subst ef
      exact fun _ z => nomatch z
  | .gone, v, F, h => by
    have e : F = [] := h
    subst e
    exact fun _ z => nomatch z
theorem RpL.trk : ∀ (xs : List D) (vs : List V) (F : List Addr), RpL T G H xs vs F → Trk H F
  | [], vs, F, h => by obtain ⟨_, rfl⟩ := h; exact fun _ z => nomatch z
  | x :: xs, vs, F, h => by
    obtain ⟨v, ws, F1, F2, e, ef, r1, r2⟩ := h
    subst ef
    intro a ha
    rcases List.mem_append.mp ha with ha | ha
    · exact Rp.trk x v F1 r1 a ha
    · exact RpL.trk xs ws F2 r2 a ha
end
mutual
/-- nothing owned: no address -/
theorem Rp.sh_nil : ∀ (d : D) (v : V) (F : List Addr), sh d = true → Rp T G H d v F → F = []
  | .non, v, F, _, h => h.2
  | .bl b, v, F, _, h => h.2
  | .int i, v, F, _, h => h.2
  | .str s, v, F, _, h => h.2
  | .scr s, v, F, _, h => h.2
  | .tup xs, v, F, s, h => by
    obtain ⟨p, vs, e, q, r⟩ := h
    exact RpL.sh_nil xs vs F (by simpa only [sh] using s) r
  | .lst false xs, v, F, s, h => by
    obtain ⟨p, vs, e, q, r, ef⟩ := h
    exact ef
  | .lst true xs, v, F, s, h => by simp [sh] at s
  | .dct true b ks ds, v, F, s, h => by simp [sh] at s
  | .dct false b ks ds, v, F, s, h => by
    obtain ⟨eb, p, kvs, F', e, ek, r, nd, hz, q, e1, ef⟩ := h
    exact ef
  | .ins true c fs ds, v, F, s, h => by simp [sh] at s
  | .ins false c fs ds, v, F, s, h => by
    obtain ⟨p, dx, vs, F', e, r, l, nd, lt, ne, q1, q2, e1, ef⟩ := h
    exact ef
  | .gone, v, F, s, h => by simp [sh] at s
theorem RpL.sh_nil : ∀ (xs : List D) (vs : List V) (F : List Addr), shL xs = true → RpL T G H xs vs F → F = []
  | [], vs, F, _, h => h.2
  | x :: xs, vs, F, s, h => by
    obtain ⟨v, ws, F1, F2, e, ef, r1, r2⟩ := h
    have s' : sh x = true ∧ shL xs = true := by simpa only [shL, Bool.and_eq_true] using s
    rw [ef, Rp.sh_nil x v F1 s'.1 r1, RpL.sh_nil xs ws F2 s'.2 r2]
    rfl
end
theorem Rp.sh {d : D} {v : V} {F : List Addr} (s : sh d = true) (h : Rp T G H d v F) (hg : Ext G G') : Rp T G' H' d v [] := by
  have e := Rp.sh_nil d v F s h
  subst e
  exact Rp.mono hg d v [] h (fun _ z => nomatch z)
theorem RpL.sh {xs : List D} {vs : List V} {F : List Addr} (s : shL xs = true) (h : RpL T G H xs vs F) (hg : Ext G G') : RpL T G' H' xs vs [] := by
  have e := RpL.sh_nil xs vs F s h
  subst e
  exact RpL.mono hg xs vs [] h (fun _ z => nomatch z)
mutual
theorem Rp.fz (hg : Ext G G') : ∀ (d : D) (v : V) (F : List Addr), fzable d = true → Rp T G H d v F → (∀ a ∈ F, ∀ o, H a = some o → G' a = some o) → Rp T G' H' (fz d) v []
  | .non, v, F, _, h, _ => ⟨h.1, rfl⟩
  | .bl b, v, F, _, h, _ => ⟨h.1, rfl⟩
  | .int i, v, F, _, h, _ => ⟨h.1, rfl⟩
  | .str s, v, F, _, h, _ => ⟨h.1, rfl⟩
  | .scr s, v, F, _, h, _ => by
    obtain ⟨⟨p, e, q⟩, ef⟩ := h
    exact ⟨⟨p, e, hg.sqL q⟩, rfl⟩
  | .tup xs, v, F, s, h, k => by
    obtain ⟨p, vs, e, q, r⟩ := h
    exact ⟨p, vs, e, hg.sqT q, RpL.fz hg xs vs F (by simpa only [fzable] using s) r k⟩
  | .lst false xs, v, F, s, h, k => by
    obtain ⟨p, vs, e, q, r, ef⟩ := h
    exact ⟨p, vs, e, hg _ _ q, RpL.fz hg xs vs [] (by simpa only [fzable] using s) r (fun _ z => nomatch z), rfl⟩
  | .lst true xs, v, F, s, h, k => by
    obtain ⟨p, vs, F', e, q, r, ef⟩ := h
    subst ef
    exact ⟨p, vs, e, k p List.mem_cons_self _ q, RpL.fz hg xs vs F' (by simpa only [fzable] using s) r (fun a ha => k a (List.mem_cons_of_mem _ ha)), rfl⟩
  | .dct o b ks ds, v, F, s, h, k => by
    obtain ⟨eb, p, kvs, F', e, ek, r, nd, hz, q⟩ := h
    have s' : fzableL ds = true := by simpa only [fzable] using s
    cases o with
    | true =>
      obtain ⟨q, ef⟩ := q
      subst ef
      exact ⟨eb, p, kvs, [], e, ek, RpL.fz hg ds _ F' s' r (fun a ha => k a (List.mem_cons_of_mem _ ha)), nd, hz, k p List.mem_cons_self _ q, rfl, rfl⟩
    | false =>
      obtain ⟨q, e1, ef⟩ := q
      subst e1
      exact ⟨eb, p, kvs, [], e, ek, RpL.fz hg ds _ [] s' r (fun _ z => nomatch z), nd, hz, hg _ _ q, rfl, rfl⟩
  | .ins o c fs ds, v, F, s, h, k => by
    obtain ⟨p, dx, vs, F', e, r, l, nd, lt, ne, q⟩ := h
    have s' : fzableL ds = true := by simpa only [fzable] using s
    have l' : fs.length = (fzL ds).length := by
      rw [l]
      clear s s' r l
      induction ds with
      | nil => rfl
      | cons x xs ih => simp only [fzL, List.length_cons, ih]
    cases o with
    | true =>
      obtain ⟨q1, q2, ef⟩ := q
      subst ef
      exact ⟨p, dx, vs, [], e, RpL.fz hg ds vs F' s' r (fun a ha => k a (List.mem_cons_of_mem _ (List.mem_cons_of_mem _ ha))), l', nd, lt, ne, k p List.mem_cons_self _ q1, k dx (List.mem_cons_of_mem _ List.mem_cons_self) _ q2, rfl, rfl⟩
    | false =>
      obtain ⟨q1, q2, e1, ef⟩ := q
      subst e1
      exact ⟨p, dx, vs, [], e, RpL.fz hg ds vs [] s' r (fun _ z => nomatch z), l', nd, lt, ne, hg _ _ q1, hg _ _ q2, rfl, rfl⟩
  | .gone, v, F, s, h, _ => by simp [fzable] at s
theorem RpL.fz (hg : Ext G G') : ∀ (xs : List D) (vs : List V) (F : List Addr), fzableL xs = true → RpL T G H xs vs F → (∀ a ∈ F, ∀ o, H a = some o → G' a = some o) → RpL T G' H' (fzL xs) vs []
  | [], vs, F, _, h, _ => ⟨h.1, rfl⟩
  | x :: xs, vs, F, s, h, k => by
    obtain ⟨v, ws, F1, F2, e, ef, r1, r2⟩ := h
    subst ef
    have s' : fzable x = true ∧ fzableL xs = true := by simpa only [fzableL, Bool.and_eq_true] using s
    exact ⟨v, ws, [], [], e, rfl, Rp.fz hg x v F1 s'.1 r1 (fun a ha => k a (List.mem_append_left _ ha)), RpL.fz hg xs ws F2 s'.2 r2 (fun a ha => k a (List.mem_append_right _ ha))⟩
end
mutual
theorem sh_fz : ∀ d : D, fzable d = true → sh (Mp.fz d) = true
  | .non, _ => rfl
  | .bl b, _ => rfl
  | .int i, _ => rfl
  | .str s, _ => rfl
  | .scr s, _ => rfl
  | .tup xs, h => by simp only [Mp.fz, sh]; exact shL_fzL xs (by simpa only [fzable] using h)
  | .lst o xs, h => by simp only [Mp.fz, sh]; rw [shL_fzL xs (by simpa only [fzable] using h)]; rfl
  | .dct o k ks vs, h => by simp only [Mp.fz, sh]; rw [shL_fzL vs (by simpa only [fzable] using h)]; rfl
  | .ins o c fs vs, h => by simp only [Mp.fz, sh]; rw [shL_fzL vs (by simpa only [fzable] using h)]; rfl
  | .gone, h => by simp [fzable] at h
theorem shL_fzL : ∀ xs : List D, fzableL xs = true → shL (Mp.fzL xs) = true
  | [], _ => rfl
  | x :: xs, h => by
    have s' : fzable x = true ∧ fzableL xs = true := by simpa only [fzableL, Bool.and_eq_true] using h
    simp only [Mp.fzL, shL, sh_fz x s'.1, shL_fzL xs s'.2, Bool.and_self]
end
theorem RpL.get : ∀ {xs : List D} {vs : List V} {F : List Addr} {n : Nat} {d : D}, RpL T G H xs vs F → xs[n]? = some d → ∃ v F1, vs[n]? = some v ∧ Rp T G H d v F1 ∧ ∀ a ∈ F1, a ∈ F
  | [], _, _, n, d, _, e => by simp at e
  | x :: xs, vs, F, 0, d, h, e => by
    obtain ⟨v, ws, F1, F2, rfl, rfl, r1, r2⟩ := h
    simp at e
    subst e
    exact ⟨v, F1, rfl, r1, fun a ha => List.mem_append_left _ ha⟩
  | x :: xs, vs, F, n + 1, d, h, e => by
    obtain ⟨v, ws, F1, F2, rfl, rfl, r1, r2⟩ := h
    obtain ⟨w, F3, e1, r3, k⟩ := RpL.get (n := n) r2 (by simpa using e)
    exact ⟨w, F3, by simpa using e1, r3, fun a ha => List.mem_append_right _ (k a ha)⟩
theorem RpL.append : ∀ {xs ys : List D} {vs ws : List V} {F1 F2 : List Addr}, RpL T G H xs vs F1 → RpL T G H ys ws F2 → RpL T G H (xs ++ ys) (vs ++ ws) (F1 ++ F2)
  | [], _, _, _, _, _, h, k => by obtain ⟨rfl, rfl⟩ := h; exact k
  | x :: xs, ys, vs, ws, F, F2, h, k => by
    obtain ⟨v, vs', G1, G2, rfl, rfl, r1, r2⟩ := h
    exact ⟨v, vs' ++ ws, G1, G2 ++ F2, rfl, by rw [List.append_assoc], r1, RpL.append r2 k⟩
theorem RpL.one {d : D} {v : V} {F : List Addr} (h : Rp T G H d v F) : RpL T G H [d] [v] F := ⟨v, [], F, [], rfl, by simp, h, rfl, rfl⟩
/-- shared parts, in any arrangement of the values -/
theorem RpL.shMem : ∀ {xs : List D} {vs : List V}, RpL T G H xs vs [] → ∀ {n : Nat} {d : D}, xs[n]? = some d → ∃ v, vs[n]? = some v ∧ Rp T G H d v [] := fun {xs vs} h {n d} e => by
  obtain ⟨v, F1, e1, r, k⟩ := h.get e
  have : F1 = [] := by
    cases F1 with
    | nil => rfl
    | cons a _ => exact absurd (k a List.mem_cons_self) (by simp)
  subst this
  exact ⟨v, e1, r⟩
theorem RpL.take : ∀ (n : Nat) {xs : List D} {vs : List V}, RpL T G H xs vs [] → RpL T G H (xs.take n) (vs.take n) []
  | 0, _, _, _ => ⟨rfl, rfl⟩
  | n + 1, [], vs, h => by obtain ⟨rfl, _⟩ := h; exact ⟨rfl, rfl⟩
  | n + 1, x :: xs, vs, h => by
    obtain ⟨v, ws, F1, F2, rfl, ef, r1, r2⟩ := h
    obtain ⟨rfl, rfl⟩ := List.append_eq_nil_iff.mp ef.symm
    exact ⟨v, ws.take n, [], [], rfl, rfl, r1, RpL.take n r2⟩
theorem RpL.drop : ∀ (n : Nat) {xs : List D} {vs : List V}, RpL T G H xs vs [] → RpL T G H (xs.drop n) (vs.drop n) []
  | 0, _, _, h => h
  | n + 1, [], vs, h => by obtain ⟨rfl, _⟩ := h; exact ⟨rfl, rfl⟩
  | n + 1, x :: xs, vs, h => by
    obtain ⟨v, ws, F1, F2, rfl, ef, r1, r2⟩ := h
    obtain ⟨rfl, rfl⟩ := List.append_eq_nil_iff.mp ef.symm
    exact RpL.drop n r2
theorem RpL.reverse : ∀ {xs : List D} {vs : List V}, RpL T G H xs vs [] → RpL T G H xs.reverse vs.reverse []
  | [], vs, h => by obtain ⟨rfl, _⟩ := h; exact ⟨rfl, rfl⟩
  | x :: xs, vs, h => by
    obtain ⟨v, ws, F1, F2, rfl, ef, r1, r2⟩ := h
    obtain ⟨rfl, rfl⟩ := List.append_eq_nil_iff.mp ef.symm
    rw [List.reverse_cons, List.reverse_cons]
    exact (RpL.reverse r2).append (RpL.one r1)
theorem RpL.toI : ∀ {xs : List D} {vs : List V} {ns : List Int} {F : List Addr}, RpL T G H xs vs F → toInts xs = some ns → vs = ns.map V.int
  | [], vs, ns, F, h, e => by
    obtain ⟨rfl, _⟩ := h
    simp only [toInts] at e
    cases e
    rfl
  | x :: xs, vs, ns, F, h, e => by
    obtain ⟨v, ws, F1, F2, rfl, rfl, r1, r2⟩ := h
    cases x with
    | int i =>
      simp only [toInts] at e
      cases q : toInts xs with
      | none => rw [q] at e; cases e
      | some r =>
        rw [q] at e
        cases e
        have h1 : v = V.int i := r1.1
        rw [RpL.toI r2 q, h1]
        rfl
    | _ => simp [toInts] at e
theorem RpL.ofInts : ∀ (ns : List Int), RpL T G H (ns.map D.int) (ns.map V.int) []
  | [] => ⟨rfl, rfl⟩
  | n :: ns => ⟨V.int n, ns.map V.int, [], [], rfl, rfl, ⟨rfl, rfl⟩, RpL.ofInts ns⟩
end
end Mp
/-! Steps of the heap, the slots, places. -/
namespace Mp
open PySem L2

/-- the heap has moved: only what F owns, and new things; F' is owned now -/
structure Step (G H : Hp) (F : List Addr) (G' H' : Hp) (F' : List Addr) : Prop where
  g : Ext G G'
  h : Ext G' H'
  keep : ∀ a o, H a = some o → a ∉ F → H' a = some o
  sub : ∀ a ∈ F', a ∈ F ∨ H a = none
  gsub : ∀ a o, G' a = some o → G a = some o ∨ a ∈ F ∨ H a = none
  nd : F'.Nodup
  gn : ∀ a ∈ F', G' a = none
theorem Step.trans {G H G1 H1 G2 H2 : Hp} {F F1 F2 : List Addr} (a : Step G H F G1 H1 F1) (b : Step G1 H1 F1 G2 H2 F2) : Step G H F G2 H2 F2 := by
  have old : ∀ x, H1 x = none → x ∈ F ∨ H x = none := fun x e => by
    cases q : H x with
    | none => exact .inr rfl
    | some o =>
      by_cases hx : x ∈ F
      · exact .inl hx
      · rw [a.keep x o q hx] at e; cases e
  refine ⟨a.g.trans b.g, b.h, fun x o q hx => b.keep x o (a.keep x o q hx) fun z => ?_, fun x hx => ?_, fun x o q => ?_, b.nd, b.gn⟩
  · rcases a.sub x z with z | z
    · exact hx z
    · rw [q] at z; cases z
  · rcases b.sub x hx with z | z
    · exact a.sub x z
    · exact old x z
  · rcases b.gsub x o q with z | z | z
    · exact a.gsub x o z
    · rcases a.sub x z with z | z
      · exact .inr (.inl z)
      · exact .inr (.inr z)
    · rcases old x z with z | z
      · exact .inr (.inl z)
      · exact .inr (.inr z)
/-- less is owned (a thing is dropped) -/
theorem Step.less {G H G' H' : Hp} {F F' F2 : List Addr} (a : Step G H F G' H' F') (nd : F2.Nodup) (k : ∀ x ∈ F2, x ∈ F') : Step G H F G' H' F2 :=
  ⟨a.g, a.h, a.keep, fun x hx => a.sub x (k x hx), a.gsub, nd, fun x hx => a.gn x (k x hx)⟩
/-- beside other owned things -/
theorem Step.more {G H G' H' : Hp} {F F' R : List Addr} (a : Step G H F G' H' F') (trk : Trk H R) (gn : ∀ x ∈ R, G x = none) (nd : R.Nodup) (dj : ∀ x ∈ R, x ∉ F) : Step G H (R ++ F) G' H' (R ++ F') := by
  have notNew : ∀ x ∈ R, H x ≠ none := fun x hx e => by
    obtain ⟨o, q⟩ := trk x hx
    rw [q] at e; cases e
  refine ⟨a.g, a.h, fun x o q hx => a.keep x o q fun z => hx (List.mem_append_right _ z), fun x hx => ?_, fun x o q => ?_, ?_, fun x hx => ?_⟩
  · rcases List.mem_append.mp hx with z | z
    · exact .inl (List.mem_append_left _ z)
    · exact (a.sub x z).imp (List.mem_append_right _) id
  · exact (a.gsub x o q).imp id fun z => z.imp (List.mem_append_right _) id
  · refine List.nodup_append.mpr ⟨nd, a.nd, fun x hx y hy e => ?_⟩
    subst e
    rcases a.sub x hy with z | z
    · exact dj x hx z
    · exact notNew x hx z
  · rcases List.mem_append.mp hx with z | z
    · cases q : G' x with
      | none => rfl
      | some o =>
        rcases a.gsub x o q with w | w | w
        · rw [gn x z] at w; cases w
        · exact absurd w (dj x z)
        · exact absurd w (notNew x z)
    · exact a.gn x z
theorem Step.keepR {G H G' H' : Hp} {F F' R : List Addr} (a : Step G H F G' H' F') (dj : ∀ x ∈ R, x ∉ F) : ∀ x ∈ R, ∀ o, H x = some o → H' x = some o := fun x hx o q => a.keep x o q (dj x hx)

/-! ### the slots -/
section
variable (T : Tab) (G H : Hp)
def RpS (d : D) (s : Option V) (F : List Addr) : Prop := (d = .gone ∧ F = []) ∨ ∃ v, s = some v ∧ Rp T G H d v F
def RpE : Env → St → List Addr → Prop
  | [], σ, F => σ = [] ∧ F = []
  | d :: ρ, σ, F => ∃ s τ F1 F2, σ = s :: τ ∧ F = F1 ++ F2 ∧ RpS T G H d s F1 ∧ RpE ρ τ F2
end
section
variable {T : Tab} {G G' H H' : Hp}
theorem RpS.mono {d : D} {s : Option V} {F : List Addr} (hg : Ext G G') (h : RpS T G H d s F) (k : ∀ a ∈ F, ∀ o, H a = some o → H' a = some o) : RpS T G' H' d s F := by
  rcases h with h | ⟨v, e, h⟩
  · exact .inl h
  · exact .inr ⟨v, e, Rp.mono hg d v F h k⟩
theorem RpE.mono (hg : Ext G G') : ∀ {ρ : Env} {σ : St} {F : List Addr}, RpE T G H ρ σ F → (∀ a ∈ F, ∀ o, H a = some o → H' a = some o) → RpE T G' H' ρ σ F
  | [], σ, F, h, _ => h
  | d :: ρ, σ, F, h, k => by
    obtain ⟨s, τ, F1, F2, e, ef, r1, r2⟩ := h
    subst ef
    exact ⟨s, τ, F1, F2, e, rfl, r1.mono hg (fun a ha => k a (List.mem_append_left _ ha)), r2.mono hg (fun a ha => k a (List.mem_append_right _ ha))⟩
theorem RpS.trk {d : D} {s : Option V} {F : List Addr} (h : RpS T G H d s F) : Trk H F := by
  rcases h with ⟨_, rfl⟩ | ⟨v, _, h⟩
  · exact fun _ z => nomatch z
  · exact Rp.trk d v F h
theorem RpE.trk : ∀ {ρ : Env} {σ : St} {F : List Addr}, RpE T G H ρ σ F → Trk H F
  | [], σ, F, h => by obtain ⟨_, rfl⟩ := h; exact fun _ z => nomatch z
  | d :: ρ, σ, F, h => by
    obtain ⟨s, τ, F1, F2, e, ef, r1, r2⟩ := h
    subst ef
    intro a ha
    rcases List.mem_append.mp ha with ha | ha
    · exact r1.trk a ha
    · exact r2.trk a ha
theorem RpE.length : ∀ {ρ : Env} {σ : St} {F : List Addr}, RpE T G H ρ σ F → σ.length = ρ.length
  | [], σ, F, h => by obtain ⟨rfl, _⟩ := h; rfl
  | d :: ρ, σ, F, h => by
    obtain ⟨s, τ, F1, F2, rfl, _, _, r2⟩ := h
    simp only [List.length_cons, r2.length]
theorem RpE.none : ∀ (n : Nat), RpE T G H (List.replicate n .gone) (List.replicate n none) []
  | 0 => ⟨rfl, rfl⟩
  | n + 1 => ⟨_, _, [], [], rfl, rfl, .inl ⟨rfl, rfl⟩, RpE.none n⟩
theorem RpE.append : ∀ {ρ ρ' : Env} {σ σ' : St} {F F' : List Addr}, RpE T G H ρ σ F → RpE T G H ρ' σ' F' → RpE T G H (ρ ++ ρ') (σ ++ σ') (F ++ F')
  | [], _, _, _, _, _, h, k => by obtain ⟨rfl, rfl⟩ := h; exact k
  | d :: ρ, _, _, _, _, F', h, k => by
    obtain ⟨s, τ, F1, F2, rfl, rfl, r1, r2⟩ := h
    exact ⟨s, _, F1, F2 ++ F', rfl, by rw [List.append_assoc], r1, r2.append k⟩
theorem RpE.ofL : ∀ {ds : List D} {vs : List V} {F : List Addr}, RpL T G H ds vs F → RpE T G H ds (vs.map some) F
  | [], _, _, h => by obtain ⟨rfl, rfl⟩ := h; exact ⟨rfl, rfl⟩
  | d :: ds, _, _, h => by
    obtain ⟨v, ws, F1, F2, rfl, rfl, r1, r2⟩ := h
    exact ⟨some v, ws.map some, F1, F2, rfl, rfl, .inr ⟨v, rfl, r1⟩, RpE.ofL r2⟩
/-- one slot, and the others -/
theorem RpE.focus : ∀ {ρ : Env} {σ : St} {F : List Addr} {i : Nat}, RpE T G H ρ σ F → i < ρ.length →
    ∃ s F1 R, σ[i]? = some s ∧ F.Perm (F1 ++ R) ∧ RpS T G H (slot ρ i) s F1 ∧
      ∀ {G' H' : Hp} {d' : D} {s' : Option V} {F1' : List Addr}, Ext G G' → (∀ a ∈ R, ∀ o, H a = some o → H' a = some o) → RpS T G' H' d' s' F1' → ∃ F', F'.Perm (F1' ++ R) ∧ RpE T G' H' (ρ.set i d') (σ.set i s') F'
  | [], _, _, i, _, hi => absurd hi (Nat.not_lt_zero _)
  | d :: ρ, _, _, 0, h, _ => by
    obtain ⟨s, τ, F1, F2, rfl, rfl, r1, r2⟩ := h
    exact ⟨s, F1, F2, rfl, .refl _, r1, fun {G' H' d' s' F1'} hg k r => ⟨F1' ++ F2, .refl _, s', τ, F1', F2, rfl, rfl, r, r2.mono hg k⟩⟩
  | d :: ρ, _, _, i + 1, h, hi => by
    obtain ⟨s, τ, F1, F2, rfl, rfl, r1, r2⟩ := h
    obtain ⟨t, A, R, e, pm, q, k⟩ := RpE.focus r2 (i := i) (Nat.lt_of_succ_lt_succ hi)
    refine ⟨t, A, F1 ++ R, e, ?_, q, fun {G' H' d' s' F1'} hg kk r => ?_⟩
    · refine (pm.append_left F1).trans ?_
      rw [← List.append_assoc, ← List.append_assoc]
      exact (List.perm_append_comm).append_right R
    · obtain ⟨F', pm', r'⟩ := k hg (fun a ha => kk a (List.mem_append_right _ ha)) r
      refine ⟨F1 ++ F', ?_, s, τ.set i s', F1, F', rfl, rfl, r1.mono hg (fun a ha => kk a (List.mem_append_left _ ha)), r'⟩
      refine (pm'.append_left F1).trans ?_
      rw [← List.append_assoc, ← List.append_assoc]
      exact (List.perm_append_comm).append_right R
end

/-! ### places -/
section
variable (T : Tab) (H : Hp)
/-- the values in an owned object -/
def KV : D → V → List V → Prop
  | .lst true _, v, vs => ∃ p, v = .ref p ∧ H p = some (.lst vs)
  | .dct true _ _ _, v, vs => ∃ p kvs, v = .ref p ∧ H p = some (.dK kvs) ∧ vs = kvs.map (·.2)
  | .ins true _ fs _, v, vs => ∃ p dx C, v = .ref p ∧ H p = some (.ins C dx ((fs.map T.fnm).zip vs)) ∧ vs.length = fs.length
  | _, _, _ => False
/-- the value at a path -/
def PV : D → V → List Nat → V → Prop
  | _, v, [], w => v = w
  | d, v, n :: π, w => ∃ vs u, KV T H d v vs ∧ vs[n]? = some u ∧ ∃ xs c, kids d = some xs ∧ xs[n]? = some c ∧ PV c u π w
def VAt (ρ : Env) (σ : St) (i : Nat) (π : List Nat) (w : V) : Prop := ∃ v, σ[i]? = some (some v) ∧ PV T H (slot ρ i) v π w
end
section
variable {T : Tab} {G G' H H' : Hp}
theorem KV.ext (hh : Ext H H') {d : D} {v : V} {vs : List V} (h : KV T H d v vs) : KV T H' d v vs := by
  unfold KV at *
  split at h
  · obtain ⟨p, e, q⟩ := h
    exact ⟨p, e, hh _ _ q⟩
  · obtain ⟨p, kvs, e, q, z⟩ := h
    exact ⟨p, kvs, e, hh _ _ q, z⟩
  · obtain ⟨p, dx, C, e, q, z⟩ := h
    exact ⟨p, dx, C, e, hh _ _ q, z⟩
  · exact h.elim
theorem PV.ext (hh : Ext H H') : ∀ {π : List Nat} {d : D} {v w : V}, PV T H d v π w → PV T H' d v π w
  | [], d, v, w, h => h
  | n :: π, d, v, w, h => by
    obtain ⟨vs, u, k, e, xs, c, e1, e2, h⟩ := h
    exact ⟨vs, u, k.ext hh, e, xs, c, e1, e2, PV.ext hh h⟩
theorem VAt.ext (hh : Ext H H') {ρ : Env} {σ : St} {i : Nat} {π : List Nat} {w : V} (h : VAt T H ρ σ i π w) : VAt T H' ρ σ i π w := by
  obtain ⟨v, e, h⟩ := h
  exact ⟨v, e, h.ext hh⟩
theorem VAt.var {ρ : Env} {σ : St} {i : Nat} {w : V} (h : σ[i]? = some (some w)) : VAt T H ρ σ i [] w := ⟨w, h, rfl⟩
theorem zip_inj {α β : Type} : ∀ {as : List α} {xs ys : List β}, xs.length = as.length → ys.length = as.length → as.zip xs = as.zip ys → xs = ys
  | [], [], [], _, _, _ => rfl
  | a :: as, x :: xs, y :: ys, h1, h2, e => by
    simp only [List.zip_cons_cons, List.cons.injEq, Prod.mk.injEq, true_and] at e
    rw [e.1, zip_inj (by simpa using h1) (by simpa using h2) e.2]
  | [], x :: xs, _, h, _, _ => by simp at h
  | [], [], y :: ys, _, h, _ => by simp at h
  | a :: as, [], _, h, _, _ => by simp at h
  | a :: as, x :: xs, [], _, h, _ => by simp at h
/-- an owned object and its parts; the parts may be changed -/
theorem Rp.parts {d : D} {v : V} {F : List Addr} {xs : List D} (h : Rp T G H d v F) (e : kids d = some xs) :
    ∃ vs own F', KV T H d v vs ∧ F = own ++ F' ∧ RpL T G H xs vs F' ∧
      ∀ {G' H' : Hp} {ys : List D} {F2 : List Addr}, Ext G G' → (∀ a ∈ own, ∀ o, H a = some o → H' a = some o) → ys.length = xs.length → RpL T G' H' ys vs F2 → Rp T G' H' (withKids d ys) v (own ++ F2) ∧ kids (withKids d ys) = some ys := by
  unfold kids at e
  split at e
  · cases e
    obtain ⟨p, vs, F', ev, q, r, ef⟩ := h
    exact ⟨vs, [p], F', ⟨p, ev, q⟩, ef, r, fun {G' H' ys F2} hg k hl r2 => ⟨⟨p, vs, F2, ev, k p (by simp) _ q, r2, rfl⟩, rfl⟩⟩
  · cases e
    obtain ⟨eb, p, kvs, F', ev, ek, r, nd, hz, q, ef⟩ := h
    exact ⟨_, [p], F', ⟨p, kvs, ev, q, rfl⟩, ef, r, fun {G' H' ys F2} hg k hl r2 => ⟨⟨eb, p, kvs, F2, ev, ek, r2, nd, hz, k p (by simp) _ q, rfl⟩, rfl⟩⟩
  · cases e
    obtain ⟨p, dx, vs, F', ev, r, l, nd, lt, ne, q1, q2, ef⟩ := h
    exact ⟨vs, [p, dx], F', ⟨p, dx, _, ev, q1, by rw [r.length, l]⟩, ef, r, fun {G' H' ys F2} hg k hl r2 => ⟨⟨p, dx, vs, F2, ev, r2, by rw [l, hl], nd, lt, ne, k p (by simp) _ q1, k dx (by simp) _ q2, rfl⟩, rfl⟩⟩
  · cases e
theorem KV.uniq {d : D} {v : V} {vs ws : List V} (a : KV T H d v vs) (b : KV T H d v ws) : vs = ws := by
  unfold KV at *
  split at a
  · obtain ⟨p, e, q⟩ := a
    obtain ⟨p', e', q'⟩ := b
    rw [e] at e'
    cases e'
    rw [q] at q'
    cases q'
    rfl
  · obtain ⟨p, kvs, e, q, z⟩ := a
    obtain ⟨p', kvs', e', q', z'⟩ := b
    rw [e] at e'
    cases e'
    rw [q] at q'
    cases q'
    rw [z, z']
  · obtain ⟨p, dx, C, e, q, l⟩ := a
    obtain ⟨p', dx', C', e', q', l'⟩ := b
    rw [e] at e'
    cases e'
    rw [q] at q'
    injection q' with q'
    injection q' with _ _ q'
    exact zip_inj (by simpa using l) (by simpa using l') q'
  · exact a.elim
theorem RpL.focus : ∀ {xs : List D} {vs : List V} {F : List Addr} {n : Nat} {c : D}, RpL T G H xs vs F → xs[n]? = some c →
    ∃ u F1 R, vs[n]? = some u ∧ F.Perm (F1 ++ R) ∧ Rp T G H c u F1 ∧
      ∀ {G' H' : Hp} {c' : D} {F1' : List Addr}, Ext G G' → (∀ a ∈ R, ∀ o, H a = some o → H' a = some o) → Rp T G' H' c' u F1' → ∃ F', F'.Perm (F1' ++ R) ∧ RpL T G' H' (xs.set n c') vs F'
  | [], _, _, n, c, _, e => by simp at e
  | x :: xs, _, _, 0, c, h, e => by
    obtain ⟨v, ws, F1, F2, rfl, rfl, r1, r2⟩ := h
    simp at e
    subst e
    exact ⟨v, F1, F2, rfl, .refl _, r1, fun {G' H' c' F1'} hg k r => ⟨F1' ++ F2, .refl _, v, ws, F1', F2, rfl, rfl, r, RpL.mono hg _ _ _ r2 k⟩⟩
  | x :: xs, _, _, n + 1, c, h, e => by
    obtain ⟨v, ws, F1, F2, rfl, rfl, r1, r2⟩ := h
    obtain ⟨u, A, R, eu, pm, q, k⟩ := RpL.focus r2 (n := n) (c := c) (by simpa using e)
    refine ⟨u, A, F1 ++ R, by simpa using eu, ?_, q, fun {G' H' c' F1'} hg kk r => ?_⟩
    · refine (pm.append_left F1).trans ?_
      rw [← List.append_assoc, ← List.append_assoc]
      exact (List.perm_append_comm).append_right R
    · obtain ⟨F', pm', r'⟩ := k hg (fun a ha => kk a (List.mem_append_right _ ha)) r
      refine ⟨F1 ++ F', ?_, v, ws, F1, F', rfl, rfl, Rp.mono hg _ _ _ r1 (fun a ha => kk a (List.mem_append_left _ ha)), r'⟩
      refine (pm'.append_left F1).trans ?_
      rw [← List.append_assoc, ← List.append_assoc]
      exact (List.perm_append_comm).append_right R
/-- the object at a path, and the rest -/
theorem Rp.focus : ∀ {π : List Nat} {d : D} {v : V} {F : List Addr} {c : D}, Rp T G H d v F → getP d π = some c →
    ∃ u F1 R, PV T H d v π u ∧ F.Perm (F1 ++ R) ∧ Rp T G H c u F1 ∧
      ∀ {G' H' : Hp} {c' : D} {F1' : List Addr}, Ext G G' → (∀ a ∈ R, ∀ o, H a = some o → H' a = some o) → Rp T G' H' c' u F1' → ∃ F', F'.Perm (F1' ++ R) ∧ Rp T G' H' (setP d π c') v F'
  | [], d, v, F, c, h, e => by
    simp only [getP, Option.some.injEq] at e
    subst e
    exact ⟨v, F, [], rfl, by simp, h, fun {G' H' c' F1'} hg k r => ⟨F1', by simp, r⟩⟩
  | n :: π, d, v, F, c, h, e => by
    cases ek : kids d with
    | none => simp [getP, ek] at e
    | some xs =>
      cases en : xs[n]? with
      | none => simp [getP, ek, en] at e
      | some b =>
        have e' : getP b π = some c := by simpa [getP, ek, en] using e
        obtain ⟨vs, own, F', kv, ef, r, put⟩ := h.parts ek
        subst ef
        obtain ⟨u, F1, R, eu, pm, rb, put2⟩ := r.focus en
        obtain ⟨w, A, B, pv, pm2, rc, put3⟩ := Rp.focus rb e'
        refine ⟨w, A, own ++ (B ++ R), ⟨vs, u, kv, eu, xs, b, ek, en, pv⟩, ?_, rc, fun {G' H' c' A'} hg k rc' => ?_⟩
        · refine ((pm.trans (pm2.append_right R)).append_left own).trans ?_
          rw [List.append_assoc A B R]
          exact List.perm_append_comm_assoc ..
        · obtain ⟨F1', q1, rb'⟩ := put3 hg (fun a ha => k a (List.mem_append_right _ (List.mem_append_left _ ha))) rc'
          obtain ⟨F2', q2, r'⟩ := put2 hg (fun a ha => k a (List.mem_append_right _ (List.mem_append_right _ ha))) rb'
          obtain ⟨done, _⟩ := put hg (fun a ha => k a (List.mem_append_left _ ha)) (by simp) r'
          refine ⟨own ++ F2', ?_, by simpa [setP, ek, en] using done⟩
          refine ((q2.trans (q1.append_right R)).append_left own).trans ?_
          rw [List.append_assoc _ B R]
          exact List.perm_append_comm_assoc ..
theorem PV.uniq {d : D} {v : V} {F : List Addr} : ∀ {π : List Nat} {d : D} {v u w : V}, PV T H d v π u → PV T H d v π w → u = w
  | [], d, v, u, w, a, b => a.symm.trans b
  | n :: π, d, v, u, w, a, b => by
    obtain ⟨vs, x, kv, e, xs, c, e1, e2, a⟩ := a
    obtain ⟨vs', x', kv', e', xs', c', e1', e2', b⟩ := b
    rw [e1] at e1'; cases e1'
    rw [e2] at e2'; cases e2'
    have := kv.uniq kv'
    subst this
    rw [e] at e'; cases e'
    exact PV.uniq (d := d) (v := v) (F := F) a b
/-- the object at a place -/
theorem RpE.place {ρ : Env} {σ : St} {F : List Addr} {i : Nat} {π : List Nat} {c : D} {u : V} (h : RpE T G H ρ σ F) (e : getS ρ i π = some c) (va : VAt T H ρ σ i π u) :
    ∃ F1 R, F.Perm (F1 ++ R) ∧ Rp T G H c u F1 ∧
      ∀ {G' H' : Hp} {c' : D} {F1' : List Addr}, Ext G G' → (∀ a ∈ R, ∀ o, H a = some o → H' a = some o) → Rp T G' H' c' u F1' → ∃ F', F'.Perm (F1' ++ R) ∧ RpE T G' H' (setS ρ i π c') σ F' := by
  have e0 : getP (slot ρ i) π = some c ∧ c ≠ .gone := by
    unfold getS at e
    split at e
    · cases e
    · rename_i hne
      refine ⟨e, fun z => ?_⟩
      subst z
      exact hne e
  have hi : i < ρ.length := by
    by_cases q : i < ρ.length
    · exact q
    · exfalso
      have : slot ρ i = .gone := by unfold slot; rw [List.getD_eq_getElem?_getD, List.getElem?_eq_none (by omega)]; rfl
      rw [this] at e0
      cases π with
      | nil => simp only [getP, Option.some.injEq] at e0; exact e0.2 e0.1.symm
      | cons n r => simp [getP, kids] at e0
  obtain ⟨s, A, B, es, pm, rs, put⟩ := h.focus hi
  obtain ⟨v, ev, pv⟩ := va
  rw [es] at ev
  cases ev
  have rd : Rp T G H (slot ρ i) v A := by
    rcases rs with ⟨eg, rfl⟩ | ⟨w, ew, r⟩
    · rw [eg] at e0
      cases π with
      | nil => simp only [getP, Option.some.injEq] at e0; exact absurd e0.1.symm e0.2
      | cons n r => simp [getP, kids] at e0
    · cases ew
      exact r
  obtain ⟨w, F1, R, pv', pm2, rc, put2⟩ := rd.focus e0.1
  have ew := PV.uniq (d := slot ρ i) (v := v) (F := F) pv pv'
  subst ew
  refine ⟨F1, R ++ B, ?_, rc, fun {G' H' c' F1'} hg k rc' => ?_⟩
  · rw [← List.append_assoc]
    exact pm.trans (pm2.append_right B)
  · obtain ⟨F', q1, rd'⟩ := put2 hg (fun a ha => k a (List.mem_append_left _ ha)) rc'
    obtain ⟨F2, q2, re⟩ := put hg (fun a ha => k a (List.mem_append_right _ ha)) (.inr ⟨v, rfl, rd'⟩)
    refine ⟨F2, ?_, ?_⟩
    · rw [← List.append_assoc]
      exact q2.trans (q1.append_right B)
    · have : σ.set i (some v) = σ := List.ext_getElem? fun j => by
        rw [List.getElem?_set]
        split
        · rename_i hj
          subst hj
          split
          · exact es.symm
          · rename_i hn
            rw [List.getElem?_eq_none (by omega)]
        · rfl
      rw [this] at re
      exact re
/-- every place that is known stands somewhere -/
theorem RpE.vat {ρ : Env} {σ : St} {F : List Addr} {i : Nat} {d : D} (h : RpE T G H ρ σ F) (e : slot ρ i = d) (ne : d ≠ .gone) : ∃ v, σ[i]? = some (some v) ∧ i < ρ.length := by
  have hi : i < ρ.length := by
    by_cases q : i < ρ.length
    · exact q
    · exfalso
      have : slot ρ i = .gone := by unfold slot; rw [List.getD_eq_getElem?_getD, List.getElem?_eq_none (by omega)]; rfl
      exact ne (e.symm.trans this)
  obtain ⟨s, A, B, es, pm, rs, put⟩ := h.focus hi
  rcases rs with ⟨eg, _⟩ | ⟨w, ew, r⟩
  · exact absurd (e.symm.trans eg) ne
  · subst ew
    exact ⟨w, es, hi⟩
end
end Mp
/-! What an evaluation leaves; readings by the denotation. -/
namespace Mp
open PySem L2

structure Pre (T : Tab) (G H : Hp) (ρ : Env) (σ : St) (F : List Addr) : Prop where
  ex : Ext G H
  env : RpE T G H ρ σ F
  nd : F.Nodup
  gn : ∀ a ∈ F, G a = none
structure Ev (T : Tab) (G H : Hp) (F : List Addr) (ρ : Env) (σ : St) (o : Option Env) (G' H' : Hp) (Fv F' : List Addr) : Prop where
  step : Step G H F G' H' (Fv ++ F')
  env : RpE T G' H' (now ρ o) σ F'
  calm : o = none → Ext H H' ∧ F' = F
def Tmp (T : Tab) (G H : Hp) (ρ : Env) (σ : St) (a : OV) (v : V) (Fv : List Addr) : Prop := match a with
  | .tm d => Rp T G H d v Fv
  | .pl i π => Fv = [] ∧ VAt T H ρ σ i π v
def OkE (T : Tab) (G H : Hp) (F : List Addr) (ρ : Env) (σ : St) (o : Option Env) (d : D) (v : V) (H' : Hp) : Prop := ∃ G' Fv F', Ev T G H F ρ σ o G' H' Fv F' ∧ Rp T G' H' d v Fv
def OkO (T : Tab) (G H : Hp) (F : List Addr) (ρ : Env) (σ : St) (o : Option Env) (a : OV) (v : V) (H' : Hp) : Prop := ∃ G' Fv F', Ev T G H F ρ σ o G' H' Fv F' ∧ Tmp T G' H' (now ρ o) σ a v Fv
def OkL (T : Tab) (G H : Hp) (F : List Addr) (ρ : Env) (σ : St) (o : Option Env) (ds : List D) (vs : List V) (H' : Hp) : Prop := ∃ G' Fv F', Ev T G H F ρ σ o G' H' Fv F' ∧ RpL T G' H' ds vs Fv
def TmpL (T : Tab) (G H : Hp) (ρ : Env) (σ : St) : List OV → List V → List Addr → Prop
  | [], vs, F => vs = [] ∧ F = []
  | a :: as, vs, F => ∃ v ws F1 F2, vs = v :: ws ∧ F = F1 ++ F2 ∧ Tmp T G H ρ σ a v F1 ∧ TmpL T G H ρ σ as ws F2
def OkOL (T : Tab) (G H : Hp) (F : List Addr) (ρ : Env) (σ : St) (o : Option Env) (as : List OV) (vs : List V) (H' : Hp) : Prop := ∃ G' Fv F', Ev T G H F ρ σ o G' H' Fv F' ∧ TmpL T G' H' (now ρ o) σ as vs Fv
def OkB (T : Tab) (G H : Hp) (F : List Addr) (ρ : Env) (σ : St) (o : Option Env) (H' : Hp) : Prop := ∃ G' F', Ev T G H F ρ σ o G' H' [] F'
/-- what an exception may carry -/
def XOk (T : Tab) (c : Nat) (x : D) : Prop := flat x = true ∧ c < T.nx
/-- an exception is in the air -/
def ExOk (T : Tab) (G H : Hp) (F : List Addr) (ρ' : Env) (σ : St) (c : Nat) (x : D) (H' : Hp) (dd : Addr) : Prop :=
  ∃ G' F', Step G H F G' H' F' ∧ RpE T G' H' ρ' σ F' ∧ ∃ w, G' dd = some (.xd [(T.xf c, w)]) ∧ Rp T G' H' x w [] ∧ XOk T c x
def Post {β : Type} (r : R β) (Φ : β → Prop) (Ξ : Nat → D → Env → Prop) : Prop := match r with
  | .ok b => Φ b
  | .exc c x ρ => Ξ c x ρ
  | .stuck => False
def Xi (T : Tab) (W : WX) (G H : Hp) (F : List Addr) (σ : St) : Nat → D → Env → Prop := fun c x ρ' => ∀ H' dd, ExOk T G H F ρ' σ c x H' dd → W (.ref (T.xa c)) (some dd) σ H'

section
variable {T : Tab} {W : WX} {G G' H H' : Hp} {ρ : Env} {σ : St} {F : List Addr}
theorem Post.bind {α β : Type} {r : R α} {k : α → R β} {Φ : β → Prop} {Ξ : Nat → D → Env → Prop} (h : Post (r.bind k) Φ Ξ) : Post r (fun b => Post (k b) Φ Ξ) Ξ := by
  cases r with
  | ok a => exact h
  | exc c x ρ => exact h
  | stuck => exact h
theorem Post.imp {β : Type} {r : R β} {Φ Φ' : β → Prop} {Ξ Ξ' : Nat → D → Env → Prop} (h : Post r Φ Ξ) (k : ∀ b, Φ b → Φ' b) (kx : ∀ c x ρ, Ξ c x ρ → Ξ' c x ρ) : Post r Φ' Ξ' := by
  cases r with
  | ok a => exact k a h
  | exc c x ρ => exact kx c x ρ h
  | stuck => exact h
theorem Post.ok {β : Type} {r : R β} {Φ : β → Prop} {Ξ : Nat → D → Env → Prop} {b : β} (h : Post r Φ Ξ) (e : r = .ok b) : Φ b := by subst e; exact h

theorem now_none (ρ : Env) : now ρ none = ρ := rfl
theorem now_now (ρ : Env) (o1 o2 : Option Env) : now (now ρ o1) o2 = now ρ (orE o2 o1) := by
  cases o2 with
  | none => rfl
  | some r => rfl
theorem Pre.step0 (P : Pre T G H ρ σ F) : Step G H F G H F := ⟨.refl _, P.ex, fun _ _ h _ => h, fun _ h => .inl h, fun _ _ h => .inl h, P.nd, P.gn⟩
theorem Pre.ev0 (P : Pre T G H ρ σ F) : Ev T G H F ρ σ none G H [] F := ⟨P.step0, P.env, fun _ => ⟨.refl _, rfl⟩⟩
theorem Ev.pre {o : Option Env} {Fv F' : List Addr} (E : Ev T G H F ρ σ o G' H' Fv F') : Pre T G' H' (now ρ o) σ F' :=
  ⟨E.step.h, E.env, (List.nodup_append.mp E.step.nd).2.1, fun a ha => E.step.gn a (List.mem_append_right _ ha)⟩
theorem Ev.nil {o : Option Env} {Fv F' : List Addr} (E : Ev T G H F ρ σ o G' H' Fv F') : Ev T G H F ρ σ o G' H' [] F' :=
  ⟨E.step.less (List.nodup_append.mp E.step.nd).2.1 fun x hx => List.mem_append_right _ hx, E.env, E.calm⟩
/-- some of the new things are let go -/
theorem Ev.drop {o : Option Env} {Fv Fw F' : List Addr} (E : Ev T G H F ρ σ o G' H' Fv F') (nd : Fw.Nodup) (k : ∀ x ∈ Fw, x ∈ Fv) : Ev T G H F ρ σ o G' H' Fw F' := by
  refine ⟨E.step.less ?_ fun x hx => ?_, E.env, E.calm⟩
  · obtain ⟨a, b, c⟩ := List.nodup_append.mp E.step.nd
    exact List.nodup_append.mpr ⟨nd, b, fun x hx y hy => c x (k x hx) y hy⟩
  · rcases List.mem_append.mp hx with z | z
    · exact List.mem_append_left _ (k x z)
    · exact List.mem_append_right _ z
/-- one evaluation behind another: what the first has made stays -/
theorem Ev.trans {G1 H1 G2 H2 : Hp} {o1 o2 : Option Env} {Fv1 F1 Fv2 F2 : List Addr} (a : Ev T G H F ρ σ o1 G1 H1 Fv1 F1) (tr : Trk H1 Fv1) (b : Ev T G1 H1 F1 (now ρ o1) σ o2 G2 H2 Fv2 F2) :
    Ev T G H F ρ σ (orE o2 o1) G2 H2 (Fv1 ++ Fv2) F2 := by
  obtain ⟨n1, n2, n3⟩ := List.nodup_append.mp a.step.nd
  have dj : ∀ x ∈ Fv1, x ∉ F1 := fun x hx hy => n3 x hx x hy rfl
  refine ⟨?_, by rw [← now_now]; exact b.env, fun e => ?_⟩
  · have m := b.step.more tr (fun x hx => a.step.gn x (List.mem_append_left _ hx)) n1 dj
    rw [List.append_assoc]
    exact a.step.trans m
  · cases o2 with
    | some r => cases e
    | none =>
      have e1 : o1 = none := e
      obtain ⟨h1, f1⟩ := a.calm e1
      obtain ⟨h2, f2⟩ := b.calm rfl
      exact ⟨h1.trans h2, f2.trans f1⟩
/-- what the first has made, behind the second -/
theorem Ev.apart {o1 : Option Env} {Fv1 F1 : List Addr} (a : Ev T G H F ρ σ o1 G' H' Fv1 F1) : ∀ x ∈ Fv1, x ∉ F1 := fun x hx hy => (List.nodup_append.mp a.step.nd).2.2 x hx x hy rfl
theorem Ev.keepRp {G2 H2 : Hp} {o2 : Option Env} {Fv2 F2 Fv : List Addr} {d : D} {v : V} (b : Ev T G H F ρ σ o2 G2 H2 Fv2 F2) (r : Rp T G H d v Fv) (dj : ∀ x ∈ Fv, x ∉ F) : Rp T G2 H2 d v Fv :=
  Rp.mono b.step.g d v Fv r (b.step.keepR dj)
theorem Ev.keepRpL {G2 H2 : Hp} {o2 : Option Env} {Fv2 F2 Fv : List Addr} {ds : List D} {vs : List V} (b : Ev T G H F ρ σ o2 G2 H2 Fv2 F2) (r : RpL T G H ds vs Fv) (dj : ∀ x ∈ Fv, x ∉ F) : RpL T G2 H2 ds vs Fv :=
  RpL.mono b.step.g ds vs Fv r (b.step.keepR dj)
theorem Tmp.trk {a : OV} {v : V} {Fv : List Addr} (h : Tmp T G H ρ σ a v Fv) : Trk H Fv := by
  cases a with
  | tm d => exact Rp.trk d v Fv h
  | pl i π =>
    obtain ⟨rfl, _⟩ := h
    exact fun _ z => nomatch z
theorem Ev.keepTmp {G2 H2 : Hp} {o2 : Option Env} {Fv2 F2 Fv : List Addr} {a : OV} {v : V} (b : Ev T G H F ρ σ o2 G2 H2 Fv2 F2) (r : Tmp T G H ρ σ a v Fv) (dj : ∀ x ∈ Fv, x ∉ F) (fm : (a.firm || o2.isNone) = true) :
    Tmp T G2 H2 (now ρ o2) σ a v Fv := by
  cases a with
  | tm d => exact b.keepRp r dj
  | pl i π =>
    obtain ⟨rfl, va⟩ := r
    refine ⟨rfl, ?_⟩
    cases π with
    | nil =>
      obtain ⟨u, e, pv⟩ := va
      exact ⟨u, e, pv⟩
    | cons n π =>
      have e2 : o2 = none := by
        cases o2 with
        | none => rfl
        | some r => cases fm
      subst e2
      exact va.ext (b.calm rfl).1
theorem Xi.mono {F1 : List Addr} {G1 H1 : Hp} (s : Step G H F G1 H1 F1) : ∀ c x ρ', Xi T W G H F σ c x ρ' → Xi T W G1 H1 F1 σ c x ρ' := fun c x ρ' h H' dd ⟨G', F', st, re, q⟩ => h H' dd ⟨G', F', s.trans st, re, q⟩
theorem Xi.ev {o : Option Env} {Fv F1 : List Addr} {G1 H1 : Hp} (E : Ev T G H F ρ σ o G1 H1 Fv F1) : ∀ c x ρ', Xi T W G H F σ c x ρ' → Xi T W G1 H1 F1 σ c x ρ' := Xi.mono E.nil.step

/-! ### the object behind an operand -/
/-- G laid over by what H has at F -/
noncomputable def lay (G H : Hp) (F : List Addr) : Hp := fun a => if a ∈ F then H a else G a
theorem lay_in {F : List Addr} {a : Addr} (h : a ∈ F) : lay G H F a = H a := if_pos h
theorem lay_out {F : List Addr} {a : Addr} (h : a ∉ F) : lay G H F a = G a := if_neg h
theorem lay_ext {F : List Addr} (ex : Ext G H) : Ext G (lay G H F) := fun a o e => by
  by_cases h : a ∈ F
  · rw [lay_in h]; exact ex a o e
  · rw [lay_out h]; exact e
theorem lay_sub {F : List Addr} (ex : Ext G H) : Ext (lay G H F) H := fun a o e => by
  by_cases h : a ∈ F
  · rw [lay_in h] at e; exact e
  · rw [lay_out h] at e; exact ex a o e
theorem lay_get {F : List Addr} : ∀ a ∈ F, ∀ o, H a = some o → lay G H F a = some o := fun a h o e => by rw [lay_in h]; exact e
/-- a value that was made on the way is frozen -/
theorem Ev.freeze {o : Option Env} {Fv Fw F' : List Addr} (E : Ev T G H F ρ σ o G' H' Fv F') (k : ∀ x ∈ Fw, x ∈ Fv) : Ev T G H F ρ σ o (lay G' H' Fw) H' [] F' := by
  obtain ⟨a, b, c⟩ := List.nodup_append.mp E.step.nd
  have out : ∀ x ∈ F', x ∉ Fw := fun x hx hy => c x (k x hy) x hx rfl
  refine ⟨⟨E.step.g.trans (lay_ext E.step.h), lay_sub E.step.h, E.step.keep, fun x hx => E.step.sub x (List.mem_append_right _ hx), fun x o q => ?_, b, fun x hx => ?_⟩, E.env.mono (lay_ext E.step.h) fun _ _ _ q => q, E.calm⟩
  · by_cases h : x ∈ Fw
    · rcases E.step.sub x (List.mem_append_left _ (k x h)) with z | z
      · exact .inr (.inl z)
      · exact .inr (.inr z)
    · rw [lay_out h] at q
      exact E.step.gsub x o q
  · show lay G' H' Fw x = none
    rw [lay_out (out x hx)]
    exact E.step.gn x (List.mem_append_right _ hx)
theorem soft_rp {d d' : D} {v : V} {Fv : List Addr} (e : soft d = some d') (r : Rp T G H d v Fv) (ex : Ext G H) : (d' = d ∧ Rp T G H d' v Fv) ∨ (Rp T (lay G H Fv) H d' v []) := by
  have key : ∀ {x : D}, fzable x = true → Rp T G H x v Fv → Rp T (lay G H Fv) H (fz x) v [] := fun {x} hf rx => Rp.fz (lay_ext ex) x v Fv hf rx lay_get
  unfold soft at e
  split at e
  · split at e
    · cases e; exact .inl ⟨rfl, r⟩
    · split at e
      · cases e; exact .inr (by have := key (x := .lst _ _) (by simpa only [fzable] using ‹_›) r; simpa only [fz] using this)
      · cases e
  · split at e
    · cases e; exact .inl ⟨rfl, r⟩
    · split at e
      · cases e; exact .inr (by have := key (x := .tup _) (by simpa only [fzable] using ‹_›) r; simpa only [fz] using this)
      · cases e
  · split at e
    · cases e; exact .inl ⟨rfl, r⟩
    · split at e
      · cases e; exact .inr (by have := key (x := .dct _ _ _ _) (by simpa only [fzable] using ‹_›) r; simpa only [fz] using this)
      · cases e
  · split at e
    · cases e; exact .inl ⟨rfl, r⟩
    · split at e
      · cases e; exact .inr (by have := key (x := .ins _ _ _ _) (by simpa only [fzable] using ‹_›) r; simpa only [fz] using this)
      · cases e
  · cases e; exact .inl ⟨rfl, r⟩
/-- an operand is read: the ground may have grown by its own parts -/
theorem Tmp.read {a : OV} {d : D} {v : V} {Fv : List Addr} (P : Pre T G H ρ σ F) (t : Tmp T G H ρ σ a v Fv) (e : a.rd ρ = some d) :
    ∃ Fw, (Fw = [] ∨ Fw = Fv) ∧ ∃ Fd, Rp T (lay G H Fw) H d v Fd := by
  cases a with
  | tm x =>
    rcases soft_rp (show soft x = some d from e) t P.ex with ⟨_, r⟩ | r
    · exact ⟨[], .inl rfl, Fv, Rp.mono (lay_ext P.ex) d v Fv r fun _ _ _ q => q⟩
    · exact ⟨Fv, .inr rfl, [], r⟩
  | pl i π =>
    obtain ⟨rfl, va⟩ := t
    obtain ⟨F1, R, _, r, _⟩ := P.env.place (show getS ρ i π = some d from e) va
    exact ⟨[], .inl rfl, F1, Rp.mono (lay_ext P.ex) d v F1 r fun _ _ _ q => q⟩
end

/-! ### readings -/
section
variable (T : Tab) (W : WX)
def tE (den : Env → RE) : TE := fun σ H Q => ∃ G ρ F, Pre T G H ρ σ F ∧ Post (den ρ) (fun (d, o) => ∀ v H', OkE T G H F ρ σ o d v H' → Q v H') (Xi T W G H F σ)
def tO (den : Env → R (OV × Option Env)) : TE := fun σ H Q => ∃ G ρ F, Pre T G H ρ σ F ∧ Post (den ρ) (fun (a, o) => ∀ v H', OkO T G H F ρ σ o a v H' → Q v H') (Xi T W G H F σ)
def tB' (den : Env → R (Bool × Option Env)) : TT := fun σ H Q => ∃ G ρ F, Pre T G H ρ σ F ∧ Post (den ρ) (fun (b, o) => ∀ H', OkB T G H F ρ σ o H' → Q b H') (Xi T W G H F σ)
def tOs (den : Env → R (List OV × Option Env)) : TA := fun σ H Q => ∃ G ρ F, Pre T G H ρ σ F ∧ Post (den ρ) (fun (as, o) => ∀ vs H', OkOL T G H F ρ σ o as vs H' → Q vs H') (Xi T W G H F σ)
def tEs (den : Env → R (List D × Option Env)) : TA := fun σ H Q => ∃ G ρ F, Pre T G H ρ σ F ∧ Post (den ρ) (fun (ds, o) => ∀ vs H', OkL T G H F ρ σ o ds vs H' → Q vs H') (Xi T W G H F σ)
end
theorem _root_.L2.PE.weak {X : Cx} {e : Expr} {t t' : TE} (h : PE X e t) (w : ∀ σ H Q, t' σ H Q → t σ H Q) : PE X e t' := ⟨fun pins s σ H Q I q => h.run pins s σ H Q I (w σ H Q q)⟩
theorem _root_.L2.PT.weak {X : Cx} {e : Expr} {t t' : TT} (h : PT X e t) (w : ∀ σ H Q, t' σ H Q → t σ H Q) : PT X e t' := ⟨fun pins s σ H Q I q => h.run pins s σ H Q I (w σ H Q q)⟩
theorem _root_.L2.PA.weak {X : Cx} {es : List Expr} {t t' : TA} (h : PA X es t) (w : ∀ σ H Q, t' σ H Q → t σ H Q) : PA X es t' := ⟨fun pos pins s σ H Q I q => h.run pos pins s σ H Q I (w σ H Q q)⟩
theorem _root_.L2.PS.weak {X : Cx} {st : Stmt} {t t' : TS} (h : PS X st t) (w : ∀ D σ H, t' D σ H → t D σ H) : PS X st t' := ⟨fun pins s σ H D I q => h.run pins s σ H D I (w D σ H q)⟩
theorem _root_.L2.PSs.weak {X : Cx} {st : List Stmt} {t t' : TS} (h : PSs X st t) (w : ∀ D σ H, t' D σ H → t D σ H) : PSs X st t' := ⟨fun pins s σ H D I q => h.run pins s σ H D I (w D σ H q)⟩
end Mp
/-! Operations on values that are only read. -/
namespace Mp
open PySem L2

/-- wanted of a new thing that is d -/
def New (T : Tab) (G H : Hp) (d : D) (Q : VK) : Prop := ∀ v H' G' Fv, Step G H [] G' H' Fv → Rp T G' H' d v Fv → Q v H'
section
variable {T : Tab} {W : WX} {G G' H H' : Hp} {ρ : Env} {σ : St} {F : List Addr} {d : D} {Q : VK} {v : V}
theorem Step.idle (ex : Ext G H) : Step G H [] G H [] := ⟨.refl _, ex, fun _ _ h _ => h, fun _ h => .inl h, fun _ _ h => .inl h, List.nodup_nil, (fun _ z => (nomatch z))⟩
theorem Step.newO {p : Addr} {o : HO} (ex : Ext G H) (h : H p = none) : Step G H [] G (upd H p o) [p] :=
  ⟨.refl _, ex.trans (.new h), fun a u q _ => Ext.new h a u q, fun a ha => .inr (by rw [List.mem_singleton.mp ha]; exact h), fun _ _ q => .inl q, by simp, fun a ha => by rw [List.mem_singleton.mp ha]; exact ex.back h⟩
theorem ext_upd {p : Addr} {o : HO} (ex : Ext G H) : Ext (upd G p o) (upd H p o) := fun a u q => by
  by_cases e : a = p
  · rw [e, upd_same] at q ⊢; exact q
  · rw [upd_ne e] at q ⊢; exact ex a u q
theorem Step.newS {p : Addr} {o : HO} (ex : Ext G H) (h : H p = none) : Step G H [] (upd G p o) (upd H p o) [] := by
  refine ⟨.new (ex.back h), ext_upd ex, fun a u q _ => Ext.new h a u q, (fun _ z => (nomatch z)), fun a u q => ?_, List.nodup_nil, (fun _ z => (nomatch z))⟩
  by_cases e : a = p
  · exact .inr (.inr (by rw [e]; exact h))
  · rw [upd_ne e] at q; exact .inl q
theorem New.val (ex : Ext G H) (n : New T G H d Q) (r : Rp T G H d v []) : Q v H := n v H G [] (.idle ex) r
theorem New.int {i : Int} (ex : Ext G H) (n : New T G H (.int i) Q) : Q (.int i) H := n.val ex ⟨rfl, rfl⟩
theorem New.bl {b : Bool} (ex : Ext G H) (n : New T G H (.bl b) Q) : Q (.bl b) H := n.val ex ⟨rfl, rfl⟩
theorem New.str {s : Str} (ex : Ext G H) (n : New T G H (.str s) Q) : Q (.str s) H := n.val ex ⟨rfl, rfl⟩
theorem New.non (ex : Ext G H) (n : New T G H .non Q) : Q .non H := n.val ex ⟨rfl, rfl⟩
theorem New.lst {xs : List D} {vs : List V} (ex : Ext G H) (n : New T G H (.lst true xs) Q) (r : RpL T G H xs vs []) {p : Addr} (h : H p = none) : Q (.ref p) (upd H p (.lst vs)) :=
  n _ _ _ _ (.newO ex h) ⟨p, vs, [], rfl, upd_same, RpL.mono (.refl _) xs vs [] r (fun _ z => (nomatch z)), rfl⟩
theorem New.tup {xs : List D} {vs : List V} (ex : Ext G H) (n : New T G H (.tup xs) Q) (r : RpL T G H xs vs []) {p : Addr} (h : H p = none) : Q (.ref p) (upd H p (.tup vs)) :=
  n _ _ _ _ (.newS ex h) ⟨p, vs, rfl, SqT.of upd_same, RpL.mono (.new (ex.back h)) xs vs [] r (fun _ z => (nomatch z))⟩
theorem New.ev {Fv : List Addr} (P : Pre T G H ρ σ F) (s : Step G H [] G' H' Fv) : Ev T G H F ρ σ none G' H' Fv F := by
  have m := s.more (R := F) P.env.trk P.gn P.nd (fun _ _ z => (nomatch z))
  rw [List.append_nil] at m
  refine ⟨m.less ?_ fun x hx => ?_, P.env.mono s.g fun a ha o q => s.keep a o q (fun z => (nomatch z)), fun _ => ⟨fun a o q => s.keep a o q (fun z => (nomatch z)), rfl⟩⟩
  · exact (List.perm_append_comm.nodup_iff).mp m.nd
  · rcases List.mem_append.mp hx with z | z
    · exact List.mem_append_right _ z
    · exact List.mem_append_left _ z
/-- the end of an operation -/
theorem OkE.of {o : Option Env} {F' : List Addr} {G1 H1 : Hp} {Fv : List Addr} (E : Ev T G H F ρ σ o G1 H1 [] F') (s : Step G1 H1 [] G' H' Fv) (r : Rp T G' H' d v Fv) : OkE T G H F ρ σ o d v H' := by
  have e := E.trans ((fun _ z => (nomatch z))) (New.ev E.pre s)
  exact ⟨G', Fv, F', e, r⟩
/-- the parts of what is shared or softened -/
theorem Rp.seq {xs : List D} {Fv : List Addr} (r : Rp T G H d v Fv) (ex : Ext G H) (e : seqOf d = some xs) : ∃ p vs F', v = .ref p ∧ (SqL T.K H p vs ∨ SqT T.K H p vs) ∧ RpL T G H xs vs F' := by
  unfold seqOf at e
  split at e
  · cases e
    rename_i o
    cases o with
    | false =>
      obtain ⟨p, vs, ev, q, r, _⟩ := r
      exact ⟨p, vs, _, ev, .inl (SqL.of (ex _ _ q)), r⟩
    | true =>
      obtain ⟨p, vs, F', ev, q, r, _⟩ := r
      exact ⟨p, vs, _, ev, .inl (SqL.of q), r⟩
  · cases e
    obtain ⟨p, vs, ev, q, r⟩ := r
    exact ⟨p, vs, _, ev, .inr (ex.sqT q), r⟩
  · cases e
theorem Rp.lst {o : Bool} {xs : List D} {Fv : List Addr} (r : Rp T G H (.lst o xs) v Fv) (ex : Ext G H) : ∃ p vs F', v = .ref p ∧ H p = some (.lst vs) ∧ RpL T G H xs vs F' := by
  cases o with
  | false =>
    obtain ⟨p, vs, ev, q, r, _⟩ := r
    exact ⟨p, vs, _, ev, ex _ _ q, r⟩
  | true =>
    obtain ⟨p, vs, F', ev, q, r, _⟩ := r
    exact ⟨p, vs, _, ev, q, r⟩
theorem Rp.tup {xs : List D} {Fv : List Addr} (r : Rp T G H (.tup xs) v Fv) (ex : Ext G H) : ∃ p vs, v = .ref p ∧ SqT T.K H p vs ∧ RpL T G H xs vs Fv := by
  obtain ⟨p, vs, ev, q, r⟩ := r
  exact ⟨p, vs, ev, ex.sqT q, r⟩
theorem Rp.dct {o k : Bool} {ks ds : List D} {Fv : List Addr} (r : Rp T G H (.dct o k ks ds) v Fv) (ex : Ext G H) : k = true ∧ ∃ p kvs F', v = .ref p ∧ ks = kvs.map (fun q => keyD q.1) ∧ RpL T G H ds (kvs.map (·.2)) F' ∧ (kvs.map (·.1)).Nodup ∧ kvs.length ≤ sizeLine ∧ H p = some (.dK kvs) := by
  obtain ⟨eb, p, kvs, F', e, ek, r, nd, hz, q⟩ := r
  cases o with
  | true => exact ⟨eb, p, kvs, F', e, ek, r, nd, hz, q.1⟩
  | false => exact ⟨eb, p, kvs, F', e, ek, r, nd, hz, ex _ _ q.1⟩
theorem Rp.int {i : Int} {Fv : List Addr} (r : Rp T G H (.int i) v Fv) : v = .int i := r.1
theorem Rp.bl {b : Bool} {Fv : List Addr} (r : Rp T G H (.bl b) v Fv) : v = .bl b := r.1
theorem Rp.str {s : Str} {Fv : List Addr} (r : Rp T G H (.str s) v Fv) : v = .str s := r.1
theorem Rp.non {Fv : List Addr} (r : Rp T G H .non v Fv) : v = .non := r.1
end

/-! ### nodes of one, two, many operands -/
section
variable {X : Cx} {T : Tab} {W : WX} {e ea eb : Expr} {da db : Env → R (OV × Option Env)}
/-- what an operation asks of its values, by data -/
def Sem1 (T : Tab) (f : D → Option D) (r : V → Hp → VK → Prop) : Prop := ∀ (G H : Hp) (x d : D) (v : V) (Fv : List Addr) (Q : VK), Ext G H → Rp T G H x v Fv → f x = some d → New T G H d Q → r v H Q
def Sem2 (T : Tab) (f : D → D → Option D) (r : R2) : Prop := ∀ (G H : Hp) (x y d : D) (v u : V) (Fv Fu : List Addr) (Q : VK), Ext G H → Rp T G H x v Fv → Rp T G H y u Fu → f x y = some d → New T G H d Q → r v u H Q
theorem un_ok {r : V → Hp → VK → Prop} {f : D → Option D} (ha : PE X ea (tO T W da)) (mk : ∀ ta, PE X ea ta → PE X e (tUn r ta)) (sem : Sem1 T f r) : PE X e (tE T W fun ρ => (da ρ).bind fun (x, o) => op1 f x o ρ) := by
  refine (mk _ ha).weak fun σ H Q ⟨G, ρ, F, P, h⟩ => ?_
  refine ⟨G, ρ, F, P, h.bind.imp (fun (a, o) h v H1 ⟨G1, Fv, F1, E, t⟩ => ?_) fun _ _ _ z => z⟩
  have h : Post (op1 f a o ρ) _ _ := h
  unfold op1 at h
  cases e1 : a.rd (now ρ o) with
  | none => rw [e1] at h; exact h.elim
  | some d =>
    rw [e1] at h
    have h : Post (ofO (f d) o) _ _ := h
    cases e2 : f d with
    | none => rw [e2] at h; exact h.elim
    | some d' =>
      rw [e2] at h
      obtain ⟨Fw, hw, Fd, rd⟩ := Tmp.read E.pre t e1
      have E2 := E.freeze (Fw := Fw) fun x hx => by
        rcases hw with e | e
        · rw [e] at hx; cases hx
        · rw [e] at hx; exact hx
      exact sem _ _ d d' v Fd Q E2.step.h rd e2 fun v' H' G' Fv' s r' => h v' H' (.of E2 s r')
/-- two operands have been reckoned: what the operation finds -/
theorem two_read {G G1 G2 H H1 H2 : Hp} {ρ : Env} {σ : St} {F F1 F2 Fv Fu : List Addr} {o1 o2 : Option Env} {a b : OV} {x y : D} {v u : V}
    (E1 : Ev T G H F ρ σ o1 G1 H1 Fv F1) (t1 : Tmp T G1 H1 (now ρ o1) σ a v Fv) (E2 : Ev T G1 H1 F1 (now ρ o1) σ o2 G2 H2 Fu F2) (t2 : Tmp T G2 H2 (now (now ρ o1) o2) σ b u Fu)
    (fm : (a.firm || o2.isNone) = true) (ex : a.rd (now (now ρ o1) o2) = some x) (ey : b.rd (now (now ρ o1) o2) = some y) :
    ∃ G3 Fx Fy, Ev T G H F ρ σ (orE o2 o1) G3 H2 [] F2 ∧ Rp T G3 H2 x v Fx ∧ Rp T G3 H2 y u Fy := by
  have E := E1.trans t1.trk E2
  have t1' := E2.keepTmp t1 E1.apart fm
  have P := E2.pre
  obtain ⟨Fw, hw, Fx, rx⟩ := Tmp.read P t1' ex
  obtain ⟨Fz, hz, Fy, ry⟩ := Tmp.read P t2 ey
  have k1 : ∀ q ∈ Fw, q ∈ Fv := fun q hq => by
    rcases hw with e | e
    · rw [e] at hq; cases hq
    · rw [e] at hq; exact hq
  have k2 : ∀ q ∈ Fz, q ∈ Fu := fun q hq => by
    rcases hz with e | e
    · rw [e] at hq; cases hq
    · rw [e] at hq; exact hq
  have E3 := E.freeze (Fw := Fw ++ Fz) fun q hq => by
    rcases List.mem_append.mp hq with z | z
    · exact List.mem_append_left _ (k1 q z)
    · exact List.mem_append_right _ (k2 q z)
  have l1 : Ext (lay G2 H2 Fw) (lay G2 H2 (Fw ++ Fz)) := fun q w e => by
    by_cases hq : q ∈ Fw
    · rw [lay_in hq] at e
      rw [lay_in (List.mem_append_left _ hq)]; exact e
    · rw [lay_out hq] at e
      exact lay_ext P.ex q w e
  have l2 : Ext (lay G2 H2 Fz) (lay G2 H2 (Fw ++ Fz)) := fun q w e => by
    by_cases hq : q ∈ Fz
    · rw [lay_in hq] at e
      rw [lay_in (List.mem_append_right _ hq)]; exact e
    · rw [lay_out hq] at e
      exact lay_ext P.ex q w e
  exact ⟨_, Fx, Fy, E3, Rp.mono l1 x v Fx rx fun _ _ _ q => q, Rp.mono l2 y u Fy ry fun _ _ _ q => q⟩
theorem bi_ok {r : R2} {f : D → D → Option D} (ha : PE X ea (tO T W da)) (hb : PE X eb (tO T W db)) (mk : ∀ ta tb, PE X ea ta → PE X eb tb → PE X e (tOp r ta tb)) (sem : Sem2 T f r) :
    PE X e (tE T W fun ρ => (da ρ).bind fun (x, o1) => (db (now ρ o1)).bind fun (y, o2) => op2 f x y o1 o2 ρ) := by
  refine (mk _ _ ha hb).weak fun σ H Q ⟨G, ρ, F, P, h⟩ => ?_
  refine ⟨G, ρ, F, P, h.bind.imp (fun (a, o1) h v H1 ⟨G1, Fv, F1, E1, t1⟩ => ?_) fun _ _ _ z => z⟩
  refine ⟨G1, now ρ o1, F1, E1.pre, h.bind.imp (fun (b, o2) h u H2 ⟨G2, Fu, F2, E2, t2⟩ => ?_) (Xi.ev E1)⟩
  have h : Post (op2 f a b o1 o2 ρ) _ _ := h
  unfold op2 at h
  cases fm : (a.firm || o2.isNone) with
  | false => rw [fm] at h; exact h.elim
  | true =>
    rw [fm] at h
    cases ex : a.rd (now (now ρ o1) o2) with
    | none => simp only [ex] at h; exact h.elim
    | some x =>
      cases ey : b.rd (now (now ρ o1) o2) with
      | none => simp only [ex, ey] at h; exact h.elim
      | some y =>
        simp only [ex, ey] at h
        cases ef : f x y with
        | none => rw [ef] at h; exact h.elim
        | some d =>
          rw [ef] at h
          obtain ⟨G3, Fx, Fy, E3, rx, ry⟩ := two_read E1 t1 E2 t2 fm ex ey
          exact sem _ _ x y d v u Fx Fy Q E3.step.h rx ry ef fun v' H' G' Fv' s r' => h v' H' (.of E3 s r')
end
end Mp
/-! The operators. -/
namespace Mp
open PySem L2

theorem OpR_or {X : Cx} {f : Value → Value → Sem Value} {r r' : R2} (h : OpR X f r) (h' : OpR X f r') : OpR X f (fun x y H Q => r x y H Q ∨ r' x y H Q) := by
  intro pins s σ H x y v u Q I rx ry q
  rcases q with q | q
  · exact h pins s σ H x y v u Q I rx ry q
  · exact h' pins s σ H x y v u Q I rx ry q
/-- the reading of an operation by data -/
def rOp2 (T : Tab) (f : D → D → Option D) : R2 := fun x y H Q => ∃ G dx dy d Fx Fy, Ext G H ∧ Rp T G H dx x Fx ∧ Rp T G H dy y Fy ∧ f dx dy = some d ∧ New T G H d Q
theorem sem_op2 (T : Tab) (f : D → D → Option D) : Sem2 T f (rOp2 T f) := fun G H x y d v u Fv Fu Q ex rx ry e n => ⟨G, x, y, d, Fv, Fu, ex, rx, ry, e, n⟩
def rOp1 (T : Tab) (f : D → Option D) : V → Hp → VK → Prop := fun x H Q => ∃ G dx d Fx, Ext G H ∧ Rp T G H dx x Fx ∧ f dx = some d ∧ New T G H d Q
theorem sem_op1 (T : Tab) (f : D → Option D) : Sem1 T f (rOp1 T f) := fun G H x d v Fv Q ex rx e n => ⟨G, x, d, Fv, ex, rx, e, n⟩
def Op.py : Op → Operator
  | .add => .Add | .sub => .Sub | .mul => .Mult | .fdiv => .FloorDiv | .mod => .Mod | .pow => .Pow | .shl => .LShift | .shr => .RShift | .band => .BitAnd | .bor => .BitOr | .bxor => .BitXor
def Cp.py : Cp → CmpOp
  | .eq => .Eq | .ne => .NotEq | .lt => .Lt | .le => .LtE | .gt => .Gt | .ge => .GtE | .is_ => .Is | .isnot => .IsNot | .in_ => .In | .notin => .NotIn
theorem line_eq : line = sizeLine := by rw [sizeLine_eq]; rfl
section
variable {X : Cx} {T : Tab}
theorem bin_int {op : Op} {i j : Int} {d : D} {G H : Hp} {Q : VK} (ex : Ext G H) (e : binI op i j = some d) (n : New T G H d Q)
    {pins : List (Addr × Obj)} {s : Shared} {σ : St} {v u : Value} (I : Inv X pins σ H s) (rx : RelV (.int i) v) (ry : RelV (.int j) u) : wpAny (model X.prog X.w) X.A (binaryOp op.py v u) (EP X pins σ Q) X.xe s := by
  unfold binI at e
  cases op with
  | add => cases e; exact op_add pins s σ H _ _ v u Q I rx ry ⟨i, j, rfl, rfl, n.int ex⟩
  | sub => cases e; exact op_sub pins s σ H _ _ v u Q I rx ry ⟨i, j, rfl, rfl, n.int ex⟩
  | mul =>
    simp only at e
    split at e
    · rename_i h
      cases e
      refine op_mul pins s σ H _ _ v u Q I rx ry ⟨i, j, rfl, rfl, ?_, n.int ex⟩
      simp only [Bool.or_eq_true, small64_eq, Bool.and_eq_true, decide_eq_true_eq] at h
      unfold CMul
      rcases h with h | h
      · left; constructor <;> omega
      · right; constructor <;> omega
    · cases e
  | fdiv =>
    simp only at e
    split at e
    · rename_i h
      cases e
      simp only [Bool.and_eq_true, decide_eq_true_eq] at h
      exact op_fdivN pins s σ H _ _ v u Q I rx ry ⟨i, j, rfl, rfl, h, n.int ex⟩
    · cases e
  | mod =>
    simp only at e
    split at e
    · rename_i h
      cases e
      simp only [decide_eq_true_eq] at h
      exact op_modN pins s σ H _ _ v u Q I rx ry ⟨i, j, rfl, rfl, h, n.int ex⟩
    · cases e
  | pow =>
    simp only at e
    split at e
    · rename_i h
      cases e
      simp only [Bool.and_eq_true, decide_eq_true_eq] at h
      refine op_pow pins s σ H _ _ v u Q I rx ry ⟨i, j, rfl, rfl, ⟨h.1.1, h.1.2, ?_⟩, n.int ex⟩
      have := h.2
      omega
    · cases e
  | shl =>
    simp only at e
    split at e
    · rename_i h
      cases e
      simp only [Bool.and_eq_true, decide_eq_true_eq] at h
      refine op_shl pins s σ H _ _ v u Q I rx ry ⟨i, j, rfl, rfl, ⟨h.1.1, h.1.2, ?_⟩, n.int ex⟩
      have := h.2
      omega
    · cases e
  | shr =>
    simp only at e
    split at e
    · rename_i h
      cases e
      simp only [decide_eq_true_eq] at h
      exact op_shr pins s σ H _ _ v u Q I rx ry ⟨i, j, rfl, rfl, h, n.int ex⟩
    · cases e
  | band => cases e
  | bor => cases e
  | bxor => cases e
theorem append_nilD {xs : List D} {vs : List V} {G H : Hp} (r : RpL T G H xs vs []) (e : vs = []) : xs = [] := by
  subst e
  cases xs with
  | nil => rfl
  | cons x xs => obtain ⟨v, ws, _, _, q, _⟩ := r; cases q
theorem or_bin (hK : X.K = T.K) (op : Op) : OpR X (binaryOp op.py) (rOp2 T (binD op)) := by
  intro pins s σ H x y v u Q I rx ry ⟨G, dx, dy, d, Fx, Fy, ex, qx, qy, e, n⟩
  unfold binD at e
  split at e
  · cases qx.int; cases qy.int; exact bin_int ex e n I rx ry
  · cases qx.int; cases qy.bl
    split at e
    · cases e
      exact op_add_ib pins s σ H _ _ v u Q I rx ry ⟨_, _, rfl, rfl, n.int ex⟩
    · cases e
  · split at e
    · split at e
      · rename_i h
        cases e
        simp only [Bool.and_eq_true, decide_eq_true_eq] at h
        obtain ⟨⟨h1, h2⟩, h3⟩ := h
        obtain ⟨p, vs, F1, rfl, hp, r1⟩ := qx.lst ex
        obtain ⟨q, ws, F2, rfl, hq, r2⟩ := qy.lst ex
        refine op_cat pins s σ H _ _ v u Q I rx ry ⟨p, q, vs, ws, rfl, rfl, hp, hq, by rw [r1.length, r2.length, ← line_eq]; exact h3, fun a ha => ?_⟩
        exact n.lst ex ((RpL.sh h1 r1 (.refl G)).append (RpL.sh h2 r2 (.refl G))) ha
      · cases e
    · cases e
  · split at e
    · split at e
      · rename_i h
        cases e
        simp only [Bool.and_eq_true, decide_eq_true_eq] at h
        obtain ⟨⟨h1, h2⟩, h3⟩ := h
        obtain ⟨p, vs, rfl, hp, r1⟩ := qx.tup ex
        obtain ⟨q, ws, rfl, hq, r2⟩ := qy.tup ex
        have s1 := RpL.sh h1 r1 (H' := H) (.refl G)
        have s2 := RpL.sh h2 r2 (H' := H) (.refl G)
        refine op_catA pins s σ H _ _ v u Q I rx ry ⟨p, q, vs, ws, rfl, rfl, by rw [hK]; exact hp, by rw [hK]; exact hq, by rw [r1.length, r2.length, ← line_eq]; exact h3, fun z => ?_, fun _ z => ?_, fun _ _ a ha => ?_⟩
        · have := append_nilD s1 z
          subst this
          have e2 := RpL.sh_nil _ _ _ h2 r2
          subst e2
          exact n.val ex qy
        · have := append_nilD s2 z
          subst this
          have e2 := RpL.sh_nil _ _ _ h1 r1
          subst e2
          exact n.val ex (by rw [List.append_nil]; exact qx)
        · exact n.tup ex (s1.append s2) ha
      · cases e
    · cases e
  · split at e
    · split at e
      · rename_i h
        cases e
        simp only [Bool.and_eq_true, decide_eq_true_eq] at h
        obtain ⟨⟨⟨h1, h2⟩, h3⟩, h4⟩ := h
        obtain ⟨p, vs, F1, rfl, hp, r1⟩ := qx.lst ex
        cases qy.int
        have s1 := RpL.sh h1 r1 (H' := H) (.refl G)
        have b1 : two62 = 4611686018427387904 := rfl
        refine op_rep pins s σ H _ _ v u Q I rx ry ⟨p, _, vs, rfl, rfl, hp, by omega, by omega, by rw [r1.length, ← line_eq]; exact h4, fun a ha => ?_⟩
        have rep : ∀ k : Nat, RpL T G H (List.replicate k _).flatten (List.replicate k vs).flatten [] := fun k => by
          induction k with
          | zero => exact ⟨rfl, rfl⟩
          | succ k ih =>
            rw [List.replicate_succ, List.replicate_succ, List.flatten_cons, List.flatten_cons]
            exact s1.append ih
        exact n.lst ex (rep _) ha
      · cases e
    · cases e
  · cases qx.str; cases qy.str
    split at e
    · split at e
      · rename_i h
        cases e
        simp only [decide_eq_true_eq] at h
        exact op_add_str pins s σ H _ _ v u Q I rx ry ⟨_, _, rfl, rfl, by rw [← line_eq]; exact h, n.str ex⟩
      · cases e
    · cases e
  · cases e
end

/-! ### == -/
mutual
def toPy : D → PyData
  | .bl b => .bool b | .int i => .int i | .str s => .str s
  | .tup xs => .tuple (toPyL xs)
  | .lst _ xs => .list (toPyL xs)
  | _ => .none
def toPyL : List D → List PyData
  | [] => []
  | x :: xs => toPy x :: toPyL xs
end
mutual
theorem eqD_py : ∀ (n m : Nat) (a b : D), okD n a = true → okD m b = true → eqD a b = PyData.eqv (toPy a) (toPy b)
  | n, m, a, b, ha, hb => by
    cases a <;> cases b <;> first
      | rfl
      | (simp [okD] at ha; done)
      | (simp [okD] at hb; done)
      | (rename_i xs ys
         cases n with
         | zero => simp [okD] at ha
         | succ n =>
           cases m with
           | zero => simp [okD] at hb
           | succ m =>
             simp only [eqD, toPy, PyData.eqv]
             exact eqL_py n m xs ys (by simpa only [okD] using ha) (by simpa only [okD] using hb))
      | (rename_i o xs o2 ys
         cases n with
         | zero => simp [okD] at ha
         | succ n =>
           cases m with
           | zero => simp [okD] at hb
           | succ m =>
             simp only [eqD, toPy, PyData.eqv]
             exact eqL_py n m xs ys (by simpa only [okD] using ha) (by simpa only [okD] using hb))
theorem eqL_py : ∀ (n m : Nat) (xs ys : List D), okL n xs = true → okL m ys = true → eqL xs ys = PyData.eqvAll (toPyL xs) (toPyL ys)
  | n, m, [], [], _, _ => rfl
  | n, m, [], y :: ys, _, _ => rfl
  | n, m, x :: xs, [], _, _ => rfl
  | n, m, x :: xs, y :: ys, ha, hb => by
    have a' : okD n x = true ∧ okL n xs = true := by simpa only [okL, Bool.and_eq_true] using ha
    have b' : okD m y = true ∧ okL m ys = true := by simpa only [okL, Bool.and_eq_true] using hb
    simp only [eqL, toPyL, PyData.eqvAll]
    rw [eqD_py n m x y a'.1 b'.1, eqL_py n m xs ys a'.2 b'.2]
end
end Mp
namespace Mp
open PySem L2
mutual
theorem canLay_py : ∀ (n : Nat) (a : D), okD n a = true → (toPy a).canLay0 = true ∧ (toPy a).depth ≤ n
  | n, .non, _ => ⟨rfl, Nat.zero_le _⟩
  | n, .bl b, _ => ⟨rfl, Nat.zero_le _⟩
  | n, .int i, _ => ⟨rfl, Nat.zero_le _⟩
  | n, .str s, h => ⟨by
      have h : (s.cps.all fun c => decide (c < 0x110000)) = true := by simpa only [okD] using h
      simpa only [toPy, PyData.canLay0, PyData.strOk] using h, Nat.zero_le _⟩
  | 0, .tup xs, h => by simp [okD] at h
  | 0, .lst o xs, h => by simp [okD] at h
  | n + 1, .tup xs, h => by
    obtain ⟨h1, h2⟩ := canLayL_py n xs (by simpa only [okD] using h)
    exact ⟨by simpa only [toPy, PyData.canLay0] using h1, by simp only [toPy, PyData.depth]; omega⟩
  | n + 1, .lst o xs, h => by
    obtain ⟨h1, h2⟩ := canLayL_py n xs (by simpa only [okD] using h)
    exact ⟨by simpa only [toPy, PyData.canLay0] using h1, by simp only [toPy, PyData.depth]; omega⟩
  | n, .scr ns, h => by cases n <;> simp [okD] at h
  | n, .dct o k ks vs, h => by cases n <;> simp [okD] at h
  | n, .ins o c fs vs, h => by cases n <;> simp [okD] at h
  | n, .gone, h => by cases n <;> simp [okD] at h
theorem canLayL_py : ∀ (n : Nat) (xs : List D), okL n xs = true → PyData.canLayAll0 (toPyL xs) = true ∧ PyData.depthAll (toPyL xs) ≤ n
  | n, [], _ => ⟨rfl, Nat.zero_le _⟩
  | n, x :: xs, h => by
    have h' : okD n x = true ∧ okL n xs = true := by simpa only [okL, Bool.and_eq_true] using h
    obtain ⟨a1, a2⟩ := canLay_py n x h'.1
    obtain ⟨b1, b2⟩ := canLayL_py n xs h'.2
    refine ⟨by simp only [toPyL, PyData.canLayAll0, a1, b1, Bool.and_self], ?_⟩
    simp only [toPyL, PyData.depthAll]
    omega
end
theorem shaped_py {n : Nat} {a : D} (h : okD n a = true) (hn : n ≤ 64) : SeqAt.shaped (toPy a) = true := by
  obtain ⟨h1, h2⟩ := canLay_py n a h
  unfold SeqAt.shaped
  rw [h1, Bool.true_and]
  exact decide_eq_true (Nat.le_trans h2 hn)
theorem shapedL_py {n : Nat} {xs : List D} (h : okL n xs = true) (hn : n < 64) : SeqAt.shaped (.list (toPyL xs)) = true := by
  obtain ⟨h1, h2⟩ := canLayL_py n xs h
  unfold SeqAt.shaped
  have e1 : (PyData.list (toPyL xs)).canLay0 = true := by simpa only [PyData.canLay0] using h1
  have e2 : (PyData.list (toPyL xs)).depth ≤ 64 := by simp only [PyData.depth]; omega
  rw [e1, Bool.true_and]
  exact decide_eq_true e2
section
variable {T : Tab} {G H : Hp}
mutual
theorem Rp.dp (ex : Ext G H) : ∀ (n : Nat) (d : D) (v : V) (F : List Addr), okD n d = true → Rp T G H d v F → Dp T.K H v (toPy d)
  | n, .non, v, F, _, h => by rw [h.non]; exact .non
  | n, .bl b, v, F, _, h => by rw [h.bl]; exact .bl b
  | n, .int i, v, F, _, h => by rw [h.int]; exact .int i
  | n, .str s, v, F, _, h => by rw [h.str]; exact .str s
  | 0, .tup xs, v, F, h, _ => by simp [okD] at h
  | 0, .lst o xs, v, F, h, _ => by simp [okD] at h
  | n + 1, .tup xs, v, F, h, r => by
    obtain ⟨p, vs, rfl, q, r⟩ := r.tup ex
    exact .tup q (RpL.dp ex n xs vs F (by simpa only [okD] using h) r)
  | n + 1, .lst o xs, v, F, h, r => by
    obtain ⟨p, vs, F', rfl, q, r⟩ := r.lst ex
    exact .lst (SqL.of q) (RpL.dp ex n xs vs F' (by simpa only [okD] using h) r)
  | n, .scr ns, v, F, h, _ => by cases n <;> simp [okD] at h
  | n, .dct o k ks vs, v, F, h, _ => by cases n <;> simp [okD] at h
  | n, .ins o c fs vs, v, F, h, _ => by cases n <;> simp [okD] at h
  | n, .gone, v, F, h, _ => by cases n <;> simp [okD] at h
theorem RpL.dp (ex : Ext G H) : ∀ (n : Nat) (xs : List D) (vs : List V) (F : List Addr), okL n xs = true → RpL T G H xs vs F → DpAll T.K H vs (toPyL xs)
  | n, [], vs, F, _, h => by obtain ⟨rfl, _⟩ := h; exact .nil
  | n, x :: xs, vs, F, s, h => by
    obtain ⟨v, ws, F1, F2, rfl, rfl, r1, r2⟩ := h
    have h' : okD n x = true ∧ okL n xs = true := by simpa only [okL, Bool.and_eq_true] using s
    exact .cons (Rp.dp ex n x v F1 h'.1 r1) (RpL.dp ex n xs ws F2 h'.2 r2)
end
theorem memD_py (n m : Nat) (x : D) (hx : okD n x = true) : ∀ ys : List D, okL m ys = true → memD x ys = (toPyL ys).any fun z => PyData.eqv z (toPy x)
  | [], _ => rfl
  | y :: ys, h => by
    have h' : okD m y = true ∧ okL m ys = true := by simpa only [okL, Bool.and_eq_true] using h
    simp only [memD, toPyL, List.any_cons]
    rw [eqD_py m n y x h'.1 hx, memD_py n m x hx ys h'.2]
/-- flat things -/
theorem Rp.flat {d : D} {v : V} {F : List Addr} (h : flat d = true) (r : Rp T G H d v F) : flatV v = true := by
  cases d with
  | non => rw [r.non]; rfl
  | bl b => rw [r.bl]; rfl
  | int i => rw [r.int]; rfl
  | str s => rw [r.str]; rfl
  | _ => simp [Mp.flat] at h
theorem eqD_flat {a b : D} {v u : V} {F F' : List Addr} (ha : flat a = true) (hb : Mp.flat b = true) (r : Rp T G H a v F) (q : Rp T G H b u F') : eqD a b = eqV v u := by
  cases a with
  | non =>
    rw [r.non]
    cases b with
    | non => rw [q.non]; rfl
    | bl b => rw [q.bl]; rfl
    | int i => rw [q.int]; rfl
    | str s => rw [q.str]; rfl
    | _ => simp [Mp.flat] at hb
  | bl x =>
    rw [r.bl]
    cases b with
    | non => rw [q.non]; rfl
    | bl b => rw [q.bl]; rfl
    | int i => rw [q.int]; rfl
    | str s => rw [q.str]; rfl
    | _ => simp [Mp.flat] at hb
  | int x =>
    rw [r.int]
    cases b with
    | non => rw [q.non]; rfl
    | bl b => rw [q.bl]; rfl
    | int i => rw [q.int]; rfl
    | str s => rw [q.str]; rfl
    | _ => simp [Mp.flat] at hb
  | str x =>
    rw [r.str]
    cases b with
    | non => rw [q.non]; rfl
    | bl b => rw [q.bl]; rfl
    | int i => rw [q.int]; rfl
    | str s => rw [q.str]; rfl
    | _ => simp [Mp.flat] at hb
  | _ => simp [Mp.flat] at ha
theorem memD_flat {x : D} {v : V} {F : List Addr} (hx : Mp.flat x = true) (r : Rp T G H x v F) : ∀ {ys : List D} {vs : List V} {Fs : List Addr}, ys.all Mp.flat = true → RpL T G H ys vs Fs → memD x ys = inV v vs ∧ vs.all flatV = true
  | [], vs, Fs, _, h => by obtain ⟨rfl, _⟩ := h; exact ⟨rfl, rfl⟩
  | y :: ys, vs, Fs, s, h => by
    obtain ⟨w, ws, F1, F2, rfl, rfl, r1, r2⟩ := h
    have h' : Mp.flat y = true ∧ ys.all Mp.flat = true := by simpa only [List.all_cons, Bool.and_eq_true] using s
    obtain ⟨m1, m2⟩ := memD_flat hx r h'.2 r2
    refine ⟨?_, ?_⟩
    · simp only [memD]
      rw [eqD_flat h'.1 hx r1 r, m1]
      unfold inV
      rw [List.any_cons]
    · rw [List.all_cons, r1.flat h'.1, m2]; rfl
end
section
variable {X : Cx} {T : Tab}
theorem ltI_lex : ∀ xs ys : List Int, ltI xs ys = HT.lexLt xs ys
  | [], [] => rfl
  | [], _ :: _ => rfl
  | _ :: _, [] => rfl
  | a :: as, b :: bs => by
    unfold ltI HT.lexLt
    rw [ltI_lex as bs]
    first
      | rfl
      | (by_cases h : a = b
         · subst h; simp
         · by_cases h2 : a < b
           · simp [h, h2]
           · simp [h, h2])
end


/-! ### keys of dicts -/
def keyOf : D → Option Key
  | .int i => some (.inl i)
  | .str s => some (.inr s)
  | _ => none
theorem keyOk_of {d : D} (h : keyOk true d = true) : ∃ k, keyOf d = some k ∧ d = keyD k := by
  cases d with
  | int i => exact ⟨.inl i, rfl, rfl⟩
  | str s => exact ⟨.inr s, rfl, rfl⟩
  | tup xs => simp [keyOk] at h
  | _ => simp [keyOk] at h
theorem Rp.key {T : Tab} {G H : Hp} {k : Key} {v : V} {F : List Addr} (r : Rp T G H (keyD k) v F) : v = kV k := by
  cases k with
  | inl i => exact r.int
  | inr s => exact r.str
theorem eqD_key (j k : Key) : eqD (keyD j) (keyD k) = decide (j = k) := by
  cases j with
  | inl i =>
    cases k with
    | inl j =>
      simp only [keyD, eqD]
      by_cases h : i = j
      · subst h; simp
      · have : ¬ (Sum.inl i : Key) = Sum.inl j := fun z => h (Sum.inl.inj z)
        simp [h]
    | inr t => simp [keyD, eqD]
  | inr s =>
    cases k with
    | inl j => simp [keyD, eqD]
    | inr t =>
      simp only [keyD, eqD]
      by_cases h : s = t
      · subst h; simp
      · simp [h]
theorem memD_key (k : Key) : ∀ kvs : List (Key × V), memD (keyD k) (kvs.map fun q => keyD q.1) = (valV kvs k).isSome
  | [] => rfl
  | p :: r => by
    simp only [List.map_cons, memD]
    rw [eqD_key, memD_key k r]
    by_cases h : p.1 = k
    · rw [valV_pos h, decide_eq_true h]; rfl
    · rw [valV_neg h, decide_eq_false h]; rfl
theorem findD_key (k : Key) : ∀ kvs : List (Key × V), (findD (keyD k) (kvs.map fun q => keyD q.1) = none ∧ valV kvs k = none) ∨ ∃ n p, findD (keyD k) (kvs.map fun q => keyD q.1) = some n ∧ kvs[n]? = some p ∧ p.1 = k ∧ valV kvs k = some p.2
  | [] => .inl ⟨rfl, rfl⟩
  | p :: r => by
    simp only [List.map_cons, findD]
    rw [eqD_key]
    by_cases h : p.1 = k
    · refine .inr ⟨0, p, by rw [if_pos (decide_eq_true h)], rfl, h, valV_pos h⟩
    · rw [if_neg (by simpa using h)]
      rcases findD_key k r with ⟨h1, h2⟩ | ⟨n, q, h1, h2, h3, h4⟩
      · exact .inl ⟨by rw [h1]; rfl, by rw [valV_neg h]; exact h2⟩
      · exact .inr ⟨n + 1, q, by rw [h1]; rfl, by simpa using h2, h3, by rw [valV_neg h]; exact h4⟩

/-! ### comparisons -/
section
variable {X : Cx} {T : Tab}
theorem cmp_in (hK : X.K = T.K) (hu : X.A.units + 65 < cLine) {neg : Bool} {dx dy : D} {b : Bool} {x y : V} {G H : Hp} {Fx Fy : List Addr} {Q : VK} (ex : Ext G H) (qx : Rp T G H dx x Fx) (qy : Rp T G H dy y Fy)
    (e : cmpD .in_ dx dy = some (.bl b)) (n : Q (.bl (if neg then !b else b)) H) {pins : List (Addr × Obj)} {s : Shared} {σ : St} {v u : Value} (I : Inv X pins σ H s) (rx : RelV x v) (ry : RelV y u) :
    wpAny (model X.prog X.w) X.A (compareOp (if neg then .NotIn else .In) v u) (EP X pins σ Q) X.xe s := by
  unfold cmpD at e
  simp only at e
  split at e
  · split at e
    · rename_i o ys h
      cases e
      simp only [Bool.and_eq_true] at h
      obtain ⟨p, vs, F1, rfl, hp, r1⟩ := qy.lst ex
      have dpx := Rp.dp ex 64 _ _ _ h.1 qx
      have dpl := RpL.dp ex 63 _ _ _ h.2 r1
      have dpy : Dp T.K H (.ref p) (.list (toPyL ys)) := .lst (SqL.of hp) dpl
      have em := memD_py 64 63 dx h.1 ys h.2
      rw [em] at n
      cases neg with
      | true => exact op_notInD hu pins s σ H _ _ v u Q I rx ry ⟨_, _, by rw [hK]; exact dpx, by rw [hK]; exact dpy, shaped_py h.1 (Nat.le_refl _), shapedL_py h.2 (by omega), n⟩
      | false => exact op_inD hu pins s σ H _ _ v u Q I rx ry ⟨_, _, by rw [hK]; exact dpx, by rw [hK]; exact dpy, shaped_py h.1 (Nat.le_refl _), shapedL_py h.2 (by omega), n⟩
    · cases e
  · split at e
    · rename_i ys h
      cases e
      simp only [Bool.and_eq_true] at h
      obtain ⟨p, vs, rfl, hp, r1⟩ := qy.tup ex
      obtain ⟨m1, m2⟩ := memD_flat h.1 qx h.2 r1
      rw [m1] at n
      cases neg with
      | true => exact op_notIn_seq pins s σ H _ _ v u Q I rx ry ⟨p, vs, rfl, .inr (by rw [hK]; exact hp), qx.flat h.1, m2, n⟩
      | false => exact op_in_seq pins s σ H _ _ v u Q I rx ry ⟨p, vs, rfl, .inr (by rw [hK]; exact hp), qx.flat h.1, m2, n⟩
    · cases e
  · split at e
    · rename_i o k ks ds h
      cases e
      obtain ⟨ek, p, kvs, F', rfl, eks, r1, nd, hz, hp⟩ := qy.dct ex
      subst ek
      obtain ⟨k, _, ed⟩ := keyOk_of h
      subst ed
      have hx := qx.key
      subst hx
      subst eks
      rw [memD_key] at n
      cases (show u = Value.ref p from ry)
      have g : DGet H p (kV k) (valV kvs k) := .k hp
      cases neg with
      | true => exact d_notIn (by omega) I g rx fun s3 I3 => ⟨.bl _, H, I3, rfl, n⟩
      | false => exact d_in (by omega) I g rx fun s3 I3 => ⟨.bl _, H, I3, rfl, n⟩
    · cases e
  · cases e
theorem cmp_notin_of {dx dy d : D} (e : cmpD .notin dx dy = some d) : ∃ b, cmpD .in_ dx dy = some (.bl b) ∧ d = .bl (!b) := by
  unfold cmpD at *
  simp only at *
  split at e <;> first
    | (split at e
       · rename_i h
         cases e
         simp only [h, if_true]
         exact ⟨_, rfl, rfl⟩
       · cases e)
    | cases e
theorem or_cmp (hK : X.K = T.K) (hu : X.A.units + 65 < cLine) (op : Cp) : OpR X (compareOp op.py) (rOp2 T (cmpD op)) := by
  intro pins s σ H x y v u Q I rx ry ⟨G, dx, dy, d, Fx, Fy, ex, qx, qy, e, n⟩
  cases op with
  | eq =>
    simp only [cmpD] at e
    split at e
    · rename_i h
      cases e
      simp only [Bool.and_eq_true, okEq] at h
      have n' := n.bl ex
      rw [eqD_py 64 64 _ _ h.1 h.2] at n'
      exact op_eqD (by omega) pins s σ H _ _ v u Q I rx ry ⟨_, _, by rw [hK]; exact Rp.dp ex 64 _ _ _ h.1 qx, by rw [hK]; exact Rp.dp ex 64 _ _ _ h.2 qy, shaped_py h.1 (Nat.le_refl _), shaped_py h.2 (Nat.le_refl _), n'⟩
    · cases e
  | ne =>
    simp only [cmpD] at e
    split at e
    · rename_i h
      cases e
      simp only [Bool.and_eq_true, okEq] at h
      have n' := n.bl ex
      rw [eqD_py 64 64 _ _ h.1 h.2] at n'
      exact op_neD (by omega) pins s σ H _ _ v u Q I rx ry ⟨_, _, by rw [hK]; exact Rp.dp ex 64 _ _ _ h.1 qx, by rw [hK]; exact Rp.dp ex 64 _ _ _ h.2 qy, shaped_py h.1 (Nat.le_refl _), shaped_py h.2 (Nat.le_refl _), n'⟩
    · cases e
  | lt =>
    simp only [cmpD] at e
    split at e
    · cases e
      cases qx.int; cases qy.int
      exact op_lt pins s σ H _ _ v u Q I rx ry ⟨_, _, rfl, rfl, n.bl ex⟩
    · split at e
      · rename_i a b ea eb
        cases e
        obtain ⟨p, vs, rfl, hp, r1⟩ := qx.tup ex
        obtain ⟨q, ws, rfl, hq, r2⟩ := qy.tup ex
        have e1 := RpL.toI r1 ea
        have e2 := RpL.toI r2 eb
        subst e1 e2
        have n' := n.bl ex
        rw [ltI_lex] at n'
        exact op_ltT (by omega) pins s σ H _ _ v u Q I rx ry ⟨p, q, a, b, rfl, rfl, by rw [hK]; exact hp, by rw [hK]; exact hq, n'⟩
      · cases e
    · cases e
  | le =>
    simp only [cmpD] at e
    split at e
    · cases e
      cases qx.int; cases qy.int
      exact op_le pins s σ H _ _ v u Q I rx ry ⟨_, _, rfl, rfl, n.bl ex⟩
    · cases e
  | gt =>
    simp only [cmpD] at e
    split at e
    · cases e
      cases qx.int; cases qy.int
      exact op_gt pins s σ H _ _ v u Q I rx ry ⟨_, _, rfl, rfl, n.bl ex⟩
    · cases e
  | ge =>
    simp only [cmpD] at e
    split at e
    · cases e
      cases qx.int; cases qy.int
      exact op_ge pins s σ H _ _ v u Q I rx ry ⟨_, _, rfl, rfl, n.bl ex⟩
    · cases e
  | in_ =>
    have hb : ∃ b, d = .bl b := by
      unfold cmpD at e
      simp only at e
      split at e <;> first
        | (split at e
           · cases e; exact ⟨_, rfl⟩
           · cases e)
        | cases e
    obtain ⟨b, rfl⟩ := hb
    exact cmp_in (neg := false) hK hu ex qx qy e (n.bl ex) I rx ry
  | notin =>
    obtain ⟨b, e', rfl⟩ := cmp_notin_of e
    exact cmp_in (neg := true) hK hu ex qx qy e' (n.bl ex) I rx ry
  | is_ =>
    simp only [cmpD] at e
    have key : ∀ {b : Bool}, y = .non → b = decide (x = .non) → Q (.bl b) H → wpAny (model X.prog X.w) X.A (compareOp .Is v u) (EP X pins σ Q) X.xe s := fun {b} e1 e2 q =>
      op_isN pins s σ H x y v u Q I rx ry ⟨e1, by rw [← e2]; exact q⟩
    split at e
    · cases e
    · cases e
      exact key qy.non (by rw [qx.non]; rfl) (n.bl ex)
    · cases e
      rename_i h1 h2
      refine key qy.non ?_ (n.bl ex)
      cases dx with
      | non => exact absurd rfl h2
      | gone => exact absurd rfl h1
      | bl b => rw [qx.bl]; rfl
      | int b => rw [qx.int]; rfl
      | str b => rw [qx.str]; rfl
      | tup b => obtain ⟨p, vs, rfl, _⟩ := qx.tup ex; rfl
      | lst o b => obtain ⟨p, vs, _, rfl, _⟩ := qx.lst ex; rfl
      | scr b => obtain ⟨⟨p, rfl, _⟩, _⟩ := qx; rfl
      | dct o k ks vs => obtain ⟨_, p, kvs, _, rfl, _⟩ := qx.dct ex; rfl
      | ins o c fs vs => obtain ⟨p, dx, vs, _, rfl, _⟩ := qx; rfl
    · cases e
      cases qx.bl; cases qy.bl
      exact op_isBl pins s σ H _ _ v u Q I rx ry ⟨_, _, rfl, rfl, by rw [← Bool.beq_eq_decide_eq]; exact n.bl ex⟩
    · cases e
    · cases e
    · cases e
    · cases e
  | isnot =>
    simp only [cmpD] at e
    have key : ∀ {b : Bool}, y = .non → b = !decide (x = .non) → Q (.bl b) H → wpAny (model X.prog X.w) X.A (compareOp .IsNot v u) (EP X pins σ Q) X.xe s := fun {b} e1 e2 q =>
      op_notN pins s σ H x y v u Q I rx ry ⟨e1, by rw [← e2]; exact q⟩
    split at e
    · cases e
    · cases e
      exact key qy.non (by rw [qx.non]; rfl) (n.bl ex)
    · cases e
      rename_i h1 h2
      refine key qy.non ?_ (n.bl ex)
      cases dx with
      | non => exact absurd rfl h2
      | gone => exact absurd rfl h1
      | bl b => rw [qx.bl]; rfl
      | int b => rw [qx.int]; rfl
      | str b => rw [qx.str]; rfl
      | tup b => obtain ⟨p, vs, rfl, _⟩ := qx.tup ex; rfl
      | lst o b => obtain ⟨p, vs, _, rfl, _⟩ := qx.lst ex; rfl
      | scr b => obtain ⟨⟨p, rfl, _⟩, _⟩ := qx; rfl
      | dct o k ks vs => obtain ⟨_, p, kvs, _, rfl, _⟩ := qx.dct ex; rfl
      | ins o c fs vs => obtain ⟨p, dx, vs, _, rfl, _⟩ := qx; rfl
    · cases e
      cases qx.bl; cases qy.bl
      exact op_notBl pins s σ H _ _ v u Q I rx ry ⟨_, _, rfl, rfl, by rw [← Bool.beq_eq_decide_eq]; exact n.bl ex⟩
    · cases e
    · cases e
    · cases e
    · cases e
end
end Mp
/-! Names, places, tests, displays. -/
namespace Mp
open PySem L2

section
variable {T : Tab} {W : WX} {G G' H H' : Hp} {ρ : Env} {σ : St} {F : List Addr} {d : D} {Q : VK} {v : V}
theorem Step.perm {F' F2 F3 : List Addr} (s : Step G H F G' H' F') (p : F.Perm F2) (q : F'.Perm F3) : Step G H F2 G' H' F3 :=
  ⟨s.g, s.h, fun a o e n => s.keep a o e fun z => n (p.mem_iff.mp z), fun a ha => (s.sub a (q.mem_iff.mpr ha)).imp p.mem_iff.mp id, fun a o e => (s.gsub a o e).imp id fun z => z.imp p.mem_iff.mp id, q.nodup_iff.mp s.nd, fun a ha => s.gn a (q.mem_iff.mpr ha)⟩
theorem Step.freeze {F : List Addr} (ex : Ext G H) : Step G H F (lay G H F) H [] :=
  ⟨lay_ext ex, lay_sub ex, fun a o e _ => e, (fun _ z => nomatch z), fun a o e => by
    by_cases h : a ∈ F
    · exact .inr (.inl h)
    · rw [lay_out h] at e; exact .inl e, List.nodup_nil, (fun _ z => nomatch z)⟩
theorem OkE.now (P : Pre T G H ρ σ F) (r : Rp T G H d v []) : OkE T G H F ρ σ none d v H := ⟨G, [], F, P.ev0, r⟩
/-- the object at a place becomes another -/
theorem Pre.change {i : Nat} {π : List Nat} {c : D} (P : Pre T G H ρ σ F) (e : getS ρ i π = some c) (va : VAt T H ρ σ i π v) :
    ∃ F1, Rp T G H c v F1 ∧ F1.Nodup ∧ (∀ a ∈ F1, G a = none) ∧ ∀ {G' H' : Hp} {c' : D} {F1' Fv : List Addr}, Step G H F1 G' H' (Fv ++ F1') → Rp T G' H' c' v F1' → ∃ F', Ev T G H F ρ σ (some (setS ρ i π c')) G' H' Fv F' := by
  obtain ⟨F1, R, pm, r, put⟩ := P.env.place e va
  have nd := pm.nodup_iff.mp P.nd
  obtain ⟨n1, n2, n3⟩ := List.nodup_append.mp nd
  have trk := P.env.trk
  have mem : ∀ a ∈ R, a ∈ F := fun a ha => pm.mem_iff.mpr (List.mem_append_right _ ha)
  have dj : ∀ a ∈ R, a ∉ F1 := fun a ha hb => n3 a hb a ha rfl
  refine ⟨F1, r, n1, fun a ha => P.gn a (pm.mem_iff.mpr (List.mem_append_left _ ha)), fun {G' H' c' F1' Fv} s rc => ?_⟩
  obtain ⟨F', pm', re⟩ := put s.g (fun a ha o q => s.keep a o q (dj a ha)) rc
  refine ⟨F', ?_, re, fun z => nomatch z⟩
  refine (s.more (R := R) (fun a ha => trk a (mem a ha)) (fun a ha => P.gn a (mem a ha)) n2 dj).perm (List.perm_append_comm.trans pm.symm) ?_
  refine List.perm_append_comm.trans ?_
  rw [List.append_assoc]
  exact (pm'.symm).append_left Fv
theorem keep_ok {i : Nat} {π : List Nat} {o : Option Env} (P : Pre T G H ρ σ F) (va : VAt T H ρ σ i π v) (e : keep ρ i π = .ok (d, o)) : OkE T G H F ρ σ o d v H := by
  unfold keep at e
  split at e
  · cases e
  · rename_i c ec
    obtain ⟨F1, r, n1, g1, put⟩ := P.change ec va
    split at e
    · rename_i hs
      cases e
      exact .now P (Rp.sh hs r (.refl _))
    · split at e
      · rename_i hf
        cases e
        have r2 : Rp T (lay G H F1) H (fz c) v [] := Rp.fz (lay_ext P.ex) c v F1 hf r lay_get
        obtain ⟨F', ev⟩ := put (Fv := []) (F1' := []) (Step.freeze P.ex) r2
        exact ⟨_, [], F', ev, r2⟩
      · cases e
/-- the object at a place is taken out -/
theorem take_ok {i : Nat} {π : List Nat} (P : Pre T G H ρ σ F) (va : VAt T H ρ σ i π v) (e : getS ρ i π = some d) : OkE T G H F ρ σ (some (setS ρ i π .gone)) d v H := by
  obtain ⟨F1, r, n1, g1, put⟩ := P.change e va
  obtain ⟨F', ev⟩ := put (Fv := F1) (F1' := []) (G' := G) (H' := H) (c' := .gone) ⟨.refl _, P.ex, fun _ _ q _ => q, fun a ha => .inl (by rw [List.append_nil] at ha; exact ha), fun _ _ q => .inl q, by rw [List.append_nil]; exact n1, fun a ha => g1 a (by rw [List.append_nil] at ha; exact ha)⟩ (by simp only [Rp])
  exact ⟨G, F1, F', ev, r⟩
/-- one behind another -/
theorem OkE.after {o1 o2 : Option Env} {G1 H1 : Hp} {Fv F1 : List Addr} (E : Ev T G H F ρ σ o1 G1 H1 Fv F1) (k : OkE T G1 H1 F1 (Mp.now ρ o1) σ o2 d v H') : OkE T G H F ρ σ (orE o2 o1) d v H' := by
  obtain ⟨G', Fw, F', E2, r⟩ := k
  exact ⟨G', Fw, F', E.nil.trans (fun _ z => nomatch z) E2, r⟩
theorem OkB.after {o1 o2 : Option Env} {G1 H1 : Hp} {Fv F1 : List Addr} (E : Ev T G H F ρ σ o1 G1 H1 Fv F1) (k : OkB T G1 H1 F1 (Mp.now ρ o1) σ o2 H') : OkB T G H F ρ σ (orE o2 o1) H' := by
  obtain ⟨G', F', E2⟩ := k
  exact ⟨G', F', E.nil.trans (fun _ z => nomatch z) E2⟩
theorem OkE.b {o : Option Env} (k : OkE T G H F ρ σ o d v H') : OkB T G H F ρ σ o H' := by
  obtain ⟨G', Fw, F', E2, r⟩ := k
  exact ⟨G', F', E2.nil⟩
theorem Post.two {α : Type} {r : R α} {Φ : α → Prop} {Ξ : Nat → D → Env → Prop} (h : Post r Φ Ξ) : (∃ b, r = .ok b ∧ Φ b) ∨ ∃ c x ρ, r = .exc c x ρ ∧ Ξ c x ρ := by
  cases r with
  | ok b => exact .inl ⟨b, rfl, h⟩
  | exc c x ρ => exact .inr ⟨c, x, ρ, rfl, h⟩
  | stuck => exact h.elim
end

section
variable {X : Cx} {T : Tab} {W : WX} {C : Cfg} {ea eb ec : Expr} {pos : Pos}
/-! ### constants -/
theorem e_C {d : D} {v : V} (h : PE X ea (tC v)) (r : ∀ G H, Rp T G H d v []) : PE X ea (tE T W fun _ => .ok (d, none)) :=
  h.weak fun σ H Q ⟨G, ρ, F, P, h⟩ => h v H (.now P (r G H))
/-! ### names, places -/
theorem o_var {i : Nat} (h : PE X ea (tVar i)) : PE X ea (tO T W (dP C (.var i))) := by
  refine h.weak fun σ H Q ⟨G, ρ, F, P, h⟩ => ?_
  simp only [dP] at h
  cases e : slot ρ i with
  | gone => rw [e] at h; exact h.elim
  | _ =>
    rw [e] at h
    obtain ⟨v, ev, _⟩ := P.env.vat e (by simp)
    exact ⟨v, ev, h v H ⟨G, [], F, P.ev0, rfl, .var ev⟩⟩
theorem e_rd {p : P} (h : PE X ea (tO T W (dP C p))) : PE X ea (tE T W (dE C (.rd p))) := by
  refine h.weak fun σ H Q ⟨G, ρ, F, P, h⟩ => ?_
  simp only [dE] at h
  refine ⟨G, ρ, F, P, h.bind.imp (fun (a, o) h v H1 ⟨G1, Fv, F1, E, t⟩ => ?_) fun _ _ _ z => z⟩
  cases a with
  | tm d => exact h v H1 ⟨G1, Fv, F1, E, t⟩
  | pl i π =>
    obtain ⟨rfl, va⟩ := t
    have h : Post ((keep (now ρ o) i π).bind fun (d, o2) => .ok (d, orE o2 o)) _ _ := h
    rcases h.bind.two with ⟨⟨d, o2⟩, e, h⟩ | ⟨c, x, ρ', e, _⟩
    · exact h v H1 ((keep_ok E.pre va e).after E)
    · unfold keep at e
      split at e
      · cases e
      · split at e
        · cases e
        · split at e <;> cases e
theorem e_mv {i : Nat} (h : PE X ea (tVar i)) : PE X ea (tE T W (dE C (.mv i))) := by
  refine h.weak fun σ H Q ⟨G, ρ, F, P, h⟩ => ?_
  simp only [dE] at h
  have key : ∀ d, slot ρ i = d → d ≠ .gone → Post (match sh d with | true => .ok (d, none) | false => .ok (d, some (ρ.set i .gone)) : RE) (fun (d, o) => ∀ v H', OkE T G H F ρ σ o d v H' → Q v H') (Xi T W G H F σ) → ∃ v, σ[i]? = some (some v) ∧ Q v H := fun d e ne h => by
    obtain ⟨v, ev, _⟩ := P.env.vat e ne
    have eg : getS ρ i [] = some d := by
      unfold getS
      rw [e]
      cases d <;> first | rfl | exact absurd rfl ne
    refine ⟨v, ev, ?_⟩
    cases hs : sh d with
    | true =>
      rw [hs] at h
      obtain ⟨F1, r, _, _, _⟩ := P.change eg (.var ev)
      exact h v H (.now P (Rp.sh hs r (.refl _)))
    | false =>
      rw [hs] at h
      exact h v H (take_ok P (.var ev) eg)
  cases e : slot ρ i with
  | gone => rw [e] at h; exact h.elim
  | _ => rw [e] at h; exact key _ e (by simp) h
theorem o_tm {e : E} (h : PE X ea (tE T W (dE C e))) : PE X ea (tO T W (dO C (.tm e))) := by
  refine h.weak fun σ H Q ⟨G, ρ, F, P, h⟩ => ?_
  simp only [dO] at h
  exact ⟨G, ρ, F, P, h.bind.imp (fun (a, o) h v H1 k => h v H1 k) fun _ _ _ z => z⟩
theorem o_pl {p : P} (h : PE X ea (tO T W (dP C p))) : PE X ea (tO T W (dO C (.pl p))) := by
  refine h.weak fun σ H Q h => ?_
  simp only [dO] at h
  exact h
/-! ### tests -/
theorem bne_cast (n : Nat) : (n != 0) = ((n : Int) != 0) := by
  cases n <;> rfl
theorem empty_len {α β : Type} {xs : List α} {ys : List β} (h : ys.length = xs.length) : (!xs.isEmpty) = !ys.isEmpty := by
  cases xs <;> cases ys <;> first | rfl | (simp at h)
theorem t_truth {da : Env → R (OV × Option Env)} (hK : X.K = T.K) (ha : PE X ea (tO T W da)) (he : ∀ whole, isTrue ea X.env whole = (do let v ← whole; standAt ea.pos; holding [v] (truthy v))) :
    PT X ea (tB' T W fun ρ => (da ρ).bind fun (x, o) => match x.rd (now ρ o) with
    | none => .stuck
    | some d => match truth d with
      | some b => .ok (b, o)
      | none => .stuck) := by
  refine (pt_truth ha he).weak fun σ H Q ⟨G, ρ, F, P, h⟩ => ?_
  refine ⟨G, ρ, F, P, h.bind.imp (fun (a, o) h v H1 ⟨G1, Fv, F1, E, t⟩ => ?_) fun _ _ _ z => z⟩
  have h : Post (match a.rd (now ρ o) with
    | none => .stuck
    | some d => match truth d with
      | some b => .ok (b, o)
      | none => .stuck) _ _ := h
  cases e1 : a.rd (now ρ o) with
  | none => rw [e1] at h; exact h.elim
  | some d =>
    rw [e1] at h
    simp only at h
    cases e2 : truth d with
    | none => rw [e2] at h; exact h.elim
    | some b =>
      rw [e2] at h
      obtain ⟨Fw, hw, Fd, rd⟩ := Tmp.read E.pre t e1
      have E2 := E.freeze (Fw := Fw) fun x hx => by
        rcases hw with e | e
        · rw [e] at hx; cases hx
        · rw [e] at hx; exact hx
      refine ⟨b, ?_, h H1 ⟨_, _, E2⟩⟩
      have ex := E2.step.h
      rw [hK]
      unfold truth at e2
      split at e2 <;> try cases e2
      · rw [rd.non]; rfl
      · rw [rd.bl]; rfl
      · rw [rd.int]; rfl
      · split at e2
        · rename_i hl
          cases e2
          rw [rd.str]
          refine ⟨by rw [← line_eq]; exact of_decide_eq_true hl, ?_⟩
          exact bne_cast _
        · cases e2
      · obtain ⟨p, vs, rfl, hp, r1⟩ := rd.tup ex
        refine .inr (.inl ⟨vs, hp, ?_⟩)
        have := r1.length
        exact empty_len this
      · obtain ⟨p, vs, _, rfl, hp, r1⟩ := rd.lst ex
        refine .inl ⟨vs, .inl (.inl hp), ?_⟩
        have := r1.length
        exact empty_len this
      · obtain ⟨_, p, kvs, _, rfl, ek, r1, _, _, hp⟩ := rd.dct ex
        refine .inr (.inr ⟨kvs, hp, ?_⟩)
        subst ek
        cases kvs <;> rfl
end
end Mp
/-! Chains, and, or, if, indices, slices, displays. -/
namespace Mp
open PySem L2

section
variable {X : Cx} {T : Tab} {W : WX} {C : Cfg} {ea eb ec : Expr} {pos : Pos}
theorem rOp2_bool {op : Cp} {x y : V} {H : Hp} {Q : VK} : rOp2 T (cmpD op) x y H Q → ∃ G dx dy d Fx Fy, Ext G H ∧ Rp T G H dx x Fx ∧ Rp T G H dy y Fy ∧ cmpD op dx dy = some d ∧ New T G H d Q := id
/-- two operands in the den, read -/
theorem two_den {den : D → D → Option D} {G H G1 H1 : Hp} {F F1 Fv : List Addr} {ρ : Env} {σ : St} {o1 : Option Env} {a b : OV} {o2 : Option Env} {Φ : D × Option Env → Prop} {Ξ : Nat → D → Env → Prop} {G2 H2 : Hp} {Fu F2 : List Addr} {v u : V}
    (h : Post (op2 den a b o1 o2 ρ) Φ Ξ) (E1 : Ev T G H F ρ σ o1 G1 H1 Fv F1) (t1 : Tmp T G1 H1 (now ρ o1) σ a v Fv) (E2 : Ev T G1 H1 F1 (now ρ o1) σ o2 G2 H2 Fu F2) (t2 : Tmp T G2 H2 (now (now ρ o1) o2) σ b u Fu) :
    ∃ x y d G3 Fx Fy, (a.firm || o2.isNone) = true ∧ a.rd (now (now ρ o1) o2) = some x ∧ b.rd (now (now ρ o1) o2) = some y ∧ den x y = some d ∧ Φ (d, orE o2 o1) ∧ Ev T G H F ρ σ (orE o2 o1) G3 H2 [] F2 ∧ Rp T G3 H2 x v Fx ∧ Rp T G3 H2 y u Fy := by
  unfold op2 at h
  cases fm : (a.firm || o2.isNone) with
  | false => rw [fm] at h; exact h.elim
  | true =>
    simp only [fm] at h
    cases ex : a.rd (now (now ρ o1) o2) with
    | none => simp only [ex] at h; exact h.elim
    | some x =>
      cases ey : b.rd (now (now ρ o1) o2) with
      | none => simp only [ex, ey] at h; exact h.elim
      | some y =>
        simp only [ex, ey] at h
        cases ef : den x y with
        | none => rw [ef] at h; exact h.elim
        | some d =>
          rw [ef] at h
          obtain ⟨G3, Fx, Fy, E3, rx, ry⟩ := two_read E1 t1 E2 t2 fm ex ey
          exact ⟨x, y, d, G3, Fx, Fy, rfl, rfl, rfl, ef, h, E3, rx, ry⟩
theorem op2_exc {den : D → D → Option D} {ρ : Env} {o1 : Option Env} {a b : OV} {o2 : Option Env} {c : Nat} {x : D} {r : Env} : op2 den a b o1 o2 ρ ≠ .exc c x r := by
  unfold op2
  split
  · simp
  · split
    · unfold ofO
      split <;> simp
    · simp
theorem firm_of {a : OV} {o2 o3 : Option Env} (h : (a.firm || (orE o3 o2).isNone) = true) : (a.firm || o2.isNone) = true ∧ (a.firm || o3.isNone) = true := by
  cases o3 <;> cases o2 <;> simp_all [orE]
theorem TruV.bl {K : PySem.W.Frag} {H : Hp} {b k : Bool} (h : TruV K (.bl b) H k) : k = b := h
/-! ### comparisons -/
theorem t_cmp {op : Cp} {a b : O} (ho : OpR X (compareOp op.py) (rOp2 T (cmpD op))) (ha : PE X ea (tO T W (dO C a))) (hb : PE X eb (tO T W (dO C b))) (hm : behindInMarks op.py eb = false) :
    PT X (.Compare ea [op.py] [eb] pos) (tB' T W (dT C (.cmp op a b))) := by
  refine (pt_cmpR ho ha hb hm).weak fun σ H Q ⟨G, ρ, F, P, h⟩ => ?_
  simp only [dT] at h
  refine ⟨G, ρ, F, P, h.bind.imp (fun (a, o1) h v H1 ⟨G1, Fv, F1, E1, t1⟩ => ?_) fun _ _ _ z => z⟩
  refine ⟨G1, now ρ o1, F1, E1.pre, h.bind.imp (fun (b, o2) h u H2 ⟨G2, Fu, F2, E2, t2⟩ => ?_) (Xi.ev E1)⟩
  obtain ⟨x, y, d, G3, Fx, Fy, fm, e1, e2, ed, h, E3, rx, ry⟩ := two_den h.bind E1 t1 E2 t2
  refine ⟨G3, x, y, d, Fx, Fy, E3.step.h, rx, ry, ed, fun z H4 G4 Fz s rz => ?_⟩
  cases d with
  | bl k => exact ⟨k, rz.bl, h H4 (OkE.b (.of E3 s rz))⟩
  | _ => exact h.elim
theorem e_cmp {op : Cp} {a b : O} (ho : OpR X (compareOp op.py) (rOp2 T (cmpD op))) (ha : PE X ea (tO T W (dO C a))) (hb : PE X eb (tO T W (dO C b))) (hm : behindInMarks op.py eb = false) :
    PE X (.Compare ea [op.py] [eb] pos) (tE T W (dE C (.cmp op a b))) := by
  have := bi_ok ha hb (fun ta tb ha hb => pe_cmpR (pos := pos) ho ha hb hm) (sem_op2 T (cmpD op))
  refine this.weak fun σ H Q h => ?_
  simp only [dE] at h
  exact h
theorem e_bin {op : Op} {a b : O} (ho : OpR X (binaryOp op.py) (rOp2 T (binD op))) (ha : PE X ea (tO T W (dO C a))) (hb : PE X eb (tO T W (dO C b))) :
    PE X (.BinOp ea op.py eb pos) (tE T W (dE C (.bin op a b))) := by
  have := bi_ok ha hb (fun ta tb ha hb => pe_op (pos := pos) ho ha hb) (sem_op2 T (binD op))
  refine this.weak fun σ H Q h => ?_
  simp only [dE] at h
  exact h
theorem neg_R : UnR X (unaryOp .USub) (rOp1 T negD) := by
  intro pins s σ H x v Q I rx ⟨G, dx, d, Fx, ex, qx, e, n⟩
  unfold negD at e
  split at e
  · cases e
    cases qx.int
    exact un_neg pins s σ H _ v Q I rx ⟨_, rfl, n.int ex⟩
  · cases e
theorem inv_R : UnR X (unaryOp .Invert) (rOp1 T invD) := by
  intro pins s σ H x v Q I rx ⟨G, dx, d, Fx, ex, qx, e, n⟩
  unfold invD at e
  split at e
  · cases e
    cases qx.int
    exact un_inv pins s σ H _ v Q I rx ⟨_, rfl, n.int ex⟩
  · cases e
theorem e_neg {a : O} (ha : PE X ea (tO T W (dO C a))) : PE X (.UnaryOp .USub ea pos) (tE T W (dE C (.neg a))) := by
  have := un_ok ha (fun ta ha => pe_un (pos := pos) neg_R ha) (sem_op1 T negD)
  refine this.weak fun σ H Q h => ?_
  simp only [dE] at h
  exact h
theorem e_inv {a : O} (ha : PE X ea (tO T W (dO C a))) : PE X (.UnaryOp .Invert ea pos) (tE T W (dE C (.inv a))) := by
  have := un_ok ha (fun ta ha => pe_un (pos := pos) inv_R ha) (sem_op1 T invD)
  refine this.weak fun σ H Q h => ?_
  simp only [dE] at h
  exact h
theorem flat_rp {G H : Hp} {d : D} {v : V} {F : List Addr} (f : flat d = true) (r : Rp T G H d v F) (G' H' : Hp) : Rp T G' H' d v [] := by
  cases d <;> first | exact ⟨r.1, rfl⟩ | cases f
/-- a chain's den -/
theorem chain_den {α : Type} {op op' : Cp} {da db dc : Env → R (OV × Option Env)} {fin : Option Env → R α} {kk : D × Option Env → R α} {Q : VK} {Φ : α → Prop} {G H : Hp} {F : List Addr} {ρ : Env} {σ : St} (P : Pre T G H ρ σ F)
    (h : Post ((da ρ).bind fun (x, o1) => (db (now ρ o1)).bind fun (y, o2) => (midD y (now (now ρ o1) o2)).bind fun y' => (op2 (cmpD op) x y o1 o2 ρ).bind fun (d, o) => match d with
    | .bl false => fin o
    | .bl true => (dc (now ρ o)).bind fun (z, o3) => (op2 (cmpD op') (.tm y') z o o3 ρ).bind kk
    | _ => .stuck) Φ (Xi T W G H F σ))
    (k0 : ∀ o H', Post (fin o) Φ (Xi T W G H F σ) → OkB T G H F ρ σ o H' → Q (.bl false) H')
    (k1 : ∀ d o v H', Post (kk (d, o)) Φ (Xi T W G H F σ) → OkE T G H F ρ σ o d v H' → Q v H') :
    tChain (rOp2 T (cmpD op)) (rOp2 T (cmpD op')) (tO T W da) (tO T W db) (tO T W dc) σ H Q := by
  refine ⟨G, ρ, F, P, h.bind.imp (fun (a, o1) h v H1 ⟨G1, Fv, F1, E1, t1⟩ => ?_) fun _ _ _ z => z⟩
  refine ⟨G1, now ρ o1, F1, E1.pre, h.bind.imp (fun (b, o2) h u H2 ⟨G2, Fu, F2, E2, t2⟩ => ?_) (Xi.ev E1)⟩
  rcases h.bind.two with ⟨y', em, h⟩ | ⟨_, _, _, em, _⟩
  rotate_left
  · unfold midD at em
    split at em
    · split at em <;> cases em
    · cases em
  obtain ⟨x, y, d, G3, Fx, Fy, fm, e1, e2, ed, h, E3, rx, ry⟩ := two_den h.bind E1 t1 E2 t2
  have hy : y' = y ∧ flat y = true := by
    unfold midD at em
    rw [e2] at em
    simp only at em
    split at em
    · rename_i f
      cases em
      exact ⟨rfl, f⟩
    · cases em
  obtain ⟨rfl, hf⟩ := hy
  refine ⟨G3, x, y', d, Fx, Fy, E3.step.h, rx, ry, ed, fun z H4 G4 Fz s rz => ?_⟩
  cases d with
  | bl k =>
    have hF : Fz = [] := rz.2
    subst hF
    have E4 : Ev T G H F ρ σ (orE o2 o1) G4 H4 [] F2 := E3.trans (fun _ z => nomatch z) (New.ev E3.pre s)
    refine ⟨k, rz.bl, ?_⟩
    cases k with
    | false =>
      refine cast (if_neg Bool.false_ne_true).symm ?_
      exact k0 _ H4 h ⟨_, _, E4⟩
    | true =>
      refine cast (if_pos rfl).symm ?_
      have h : Post ((dc (now ρ (orE o2 o1))).bind fun (z, o3) => (op2 (cmpD op') (.tm y') z (orE o2 o1) o3 ρ).bind kk) Φ (Xi T W G H F σ) := h
      refine ⟨G4, now ρ (orE o2 o1), F2, E4.pre, h.bind.imp (fun (c, o3) h w H5 ⟨G5, Fw, F5, E5, t5⟩ => ?_) (Xi.ev E4)⟩
      obtain ⟨x2, y2, d2, G6, Fx2, Fy2, fm2, e12, e22, ed2, h, E6, rx2, ry2⟩ := two_den h.bind E4 (show Tmp T G4 H4 _ σ (.tm y') u [] from flat_rp hf ry G4 H4) E5 t5
      exact ⟨G6, x2, y2, d2, Fx2, Fy2, E6.step.h, rx2, ry2, ed2, fun z H7 G7 F7 s rz => k1 _ _ _ _ h (.of E6 s rz)⟩
  | _ => exact h.elim
theorem e_chain {op op' : Cp} {a b c : O} (ho : OpR X (compareOp op.py) (rOp2 T (cmpD op))) (ho' : OpR X (compareOp op'.py) (rOp2 T (cmpD op'))) (ha : PE X ea (tO T W (dO C a))) (hb : PE X eb (tO T W (dO C b))) (hc : PE X ec (tO T W (dO C c)))
    (hm : lastMarks [op.py, op'.py] [eb, ec] = false) : PE X (.Compare ea [op.py, op'.py] [eb, ec] pos) (tE T W (dE C (.chain op op' a b c))) := by
  refine (pe_chain ho ho' ha hb hc hm).weak fun σ H Q ⟨G, ρ, F, P, h⟩ => ?_
  simp only [dE] at h
  refine chain_den (α := D × Option Env) (fin := fun o => .ok (.bl false, o)) (Φ := fun (d, o) => ∀ v H', OkE T G H F ρ σ o d v H' → Q v H') P h (fun o H' h k => ?_) fun d o v H' h k => h v H' k
  obtain ⟨G1, F1, E⟩ := k
  exact h _ H' ⟨G1, [], F1, E, rfl, rfl⟩
theorem t_chain {op op' : Cp} {a b c : O} (ho : OpR X (compareOp op.py) (rOp2 T (cmpD op))) (ho' : OpR X (compareOp op'.py) (rOp2 T (cmpD op'))) (ha : PE X ea (tO T W (dO C a))) (hb : PE X eb (tO T W (dO C b))) (hc : PE X ec (tO T W (dO C c)))
    (hm : lastMarks [op.py, op'.py] [eb, ec] = false) : PT X (.Compare ea [op.py, op'.py] [eb, ec] pos) (tB' T W (dT C (.chain op op' a b c))) := by
  refine (pt_chain ho ho' ha hb hc hm).weak fun σ H Q ⟨G, ρ, F, P, h⟩ => ?_
  simp only [dT] at h
  refine chain_den (α := Bool × Option Env) (fin := fun o => .ok (false, o)) (Φ := fun (b, o) => ∀ H', OkB T G H F ρ σ o H' → Q b H') P h (fun o H' h k => ⟨false, rfl, h H' k⟩) fun d o v H' h k => ?_
  cases d with
  | bl b =>
    obtain ⟨G1, Fv, F1, E, r⟩ := id k
    exact ⟨b, r.bl, h H' k.b⟩
  | _ => exact h.elim
/-! ### and, or, not, if -/
variable {ta tb tc : Mp.T} {rs : List Expr}
theorem t_and (ha : PT X ea (tB' T W (dT C ta))) (hb : PW X (.BoolOp .And (eb :: rs) pos) (tB' T W (dT C tb))) : PW X (.BoolOp .And (ea :: eb :: rs) pos) (tB' T W (dT C (.and ta tb))) := by
  refine ⟨fun wh pins s σ H Q I ⟨G, ρ, F, P, h⟩ => (pw_and ha hb).run wh pins s σ H Q I ?_⟩
  simp only [dT] at h
  refine ⟨G, ρ, F, P, h.bind.imp (fun (k, o) h H1 ⟨G1, F1, E⟩ => ?_) fun _ _ _ z => z⟩
  cases k with
  | false => refine cast (if_neg Bool.false_ne_true).symm ?_; exact h H1 ⟨G1, F1, E⟩
  | true =>
    refine cast (if_pos rfl).symm ?_
    exact ⟨G1, now ρ o, F1, E.pre, (Post.bind h).imp (fun (k2, o2) h H2 kk => h H2 (kk.after E)) (Xi.ev E)⟩
theorem t_or (ha : PT X ea (tB' T W (dT C ta))) (hb : PW X (.BoolOp .Or (eb :: rs) pos) (tB' T W (dT C tb))) : PW X (.BoolOp .Or (ea :: eb :: rs) pos) (tB' T W (dT C (.or ta tb))) := by
  refine ⟨fun wh pins s σ H Q I ⟨G, ρ, F, P, h⟩ => (pw_or ha hb).run wh pins s σ H Q I ?_⟩
  simp only [dT] at h
  refine ⟨G, ρ, F, P, h.bind.imp (fun (k, o) h H1 ⟨G1, F1, E⟩ => ?_) fun _ _ _ z => z⟩
  cases k with
  | true => refine cast (if_pos rfl).symm ?_; exact h H1 ⟨G1, F1, E⟩
  | false =>
    refine cast (if_neg Bool.false_ne_true).symm ?_
    exact ⟨G1, now ρ o, F1, E.pre, (Post.bind h).imp (fun (k2, o2) h H2 kk => h H2 (kk.after E)) (Xi.ev E)⟩
theorem t_not (ha : PT X ea (tB' T W (dT C ta))) : PT X (.UnaryOp .Not ea pos) (tB' T W (dT C (.not ta))) := by
  refine (pt_not ha).weak fun σ H Q ⟨G, ρ, F, P, h⟩ => ?_
  simp only [dT] at h
  exact ⟨G, ρ, F, P, h.bind.imp (fun (k, o) h H1 kk => h H1 kk) fun _ _ _ z => z⟩
theorem e_ife {a b : E} (hc : PT X ec (tB' T W (dT C tc))) (ha : PE X ea (tE T W (dE C a))) (hb : PE X eb (tE T W (dE C b))) : PE X (.IfExp ec ea eb pos) (tE T W (dE C (.ife tc a b))) := by
  refine (pe_ifExp hc ha hb).weak fun σ H Q ⟨G, ρ, F, P, h⟩ => ?_
  simp only [dE] at h
  refine ⟨G, ρ, F, P, h.bind.imp (fun (k, o) h H1 ⟨G1, F1, E⟩ => ?_) fun _ _ _ z => z⟩
  cases k with
  | true =>
    refine cast (if_pos rfl).symm ?_
    exact ⟨G1, now ρ o, F1, E.pre, (Post.bind h).imp (fun (k2, o2) h v H2 kk => h v H2 (kk.after E)) (Xi.ev E)⟩
  | false =>
    refine cast (if_neg Bool.false_ne_true).symm ?_
    exact ⟨G1, now ρ o, F1, E.pre, (Post.bind h).imp (fun (k2, o2) h v H2 kk => h v H2 (kk.after E)) (Xi.ev E)⟩
theorem e_andv {a b : E} (ha : PE X ea (tE T W (dE C a))) (hb : PE X (.BoolOp .And (eb :: rs) pos) (tE T W (dE C b))) : PE X (.BoolOp .And (ea :: eb :: rs) pos) (tE T W (dE C (.andv a b))) := by
  refine (pe_and ha hb).weak fun σ H Q ⟨G, ρ, F, P, h⟩ => ?_
  simp only [dE] at h
  refine ⟨G, ρ, F, P, h.bind.imp (fun (d, o) h v H1 ⟨G1, Fv, F1, E, r⟩ => ?_) fun _ _ _ z => z⟩
  cases d with
  | bl k =>
    refine ⟨k, r.bl, ?_⟩
    cases k with
    | true =>
      refine cast (if_pos rfl).symm ?_
      exact ⟨G1, now ρ o, F1, E.pre, (Post.bind h).imp (fun (k2, o2) h v H2 kk => h v H2 (kk.after E)) (Xi.ev E)⟩
    | false =>
      refine cast (if_neg Bool.false_ne_true).symm ?_
      cases r.bl
      exact h _ H1 ⟨G1, Fv, F1, E, r⟩
  | _ => exact h.elim
theorem e_orv {a b : E} (ha : PE X ea (tE T W (dE C a))) (hb : PE X (.BoolOp .Or (eb :: rs) pos) (tE T W (dE C b))) : PE X (.BoolOp .Or (ea :: eb :: rs) pos) (tE T W (dE C (.orv a b))) := by
  refine (pe_or ha hb).weak fun σ H Q ⟨G, ρ, F, P, h⟩ => ?_
  simp only [dE] at h
  refine ⟨G, ρ, F, P, h.bind.imp (fun (d, o) h v H1 ⟨G1, Fv, F1, E, r⟩ => ?_) fun _ _ _ z => z⟩
  cases d with
  | bl k =>
    refine ⟨k, r.bl, ?_⟩
    cases k with
    | false =>
      refine cast (if_neg Bool.false_ne_true).symm ?_
      exact ⟨G1, now ρ o, F1, E.pre, (Post.bind h).imp (fun (k2, o2) h v H2 kk => h v H2 (kk.after E)) (Xi.ev E)⟩
    | true =>
      refine cast (if_pos rfl).symm ?_
      cases r.bl
      exact h _ H1 ⟨G1, Fv, F1, E, r⟩
  | _ => exact h.elim
end
end Mp
/-! Indices, fields, slices, displays, operand lists. -/
namespace Mp
open PySem L2

/-! ### readings are monotone -/
section
variable {T : Tab} {W : WX}
theorem tO.mono {den : Env → R (OV × Option Env)} {σ : St} {H : Hp} {Q Q' : VK} (h : tO T W den σ H Q) (k : ∀ v H', Q v H' → Q' v H') : tO T W den σ H Q' := by
  obtain ⟨G, ρ, F, P, h⟩ := h
  exact ⟨G, ρ, F, P, h.imp (fun (a, o) h v H' z => k v H' (h v H' z)) fun _ _ _ z => z⟩
theorem tE.mono {den : Env → RE} {σ : St} {H : Hp} {Q Q' : VK} (h : tE T W den σ H Q) (k : ∀ v H', Q v H' → Q' v H') : tE T W den σ H Q' := by
  obtain ⟨G, ρ, F, P, h⟩ := h
  exact ⟨G, ρ, F, P, h.imp (fun (a, o) h v H' z => k v H' (h v H' z)) fun _ _ _ z => z⟩
theorem un_den {r : V → Hp → VK → Prop} {f : D → Option D} {da : Env → R (OV × Option Env)} (sem : Sem1 T f r) {σ : St} {H : Hp} {Q : VK} (h : tE T W (fun ρ => (da ρ).bind fun (x, o) => op1 f x o ρ) σ H Q) : tO T W da σ H fun v H1 => r v H1 Q := by
  obtain ⟨G, ρ, F, P, h⟩ := h
  refine ⟨G, ρ, F, P, h.bind.imp (fun (a, o) h v H1 ⟨G1, Fv, F1, E, t⟩ => ?_) fun _ _ _ z => z⟩
  have h : Post (op1 f a o ρ) _ _ := h
  unfold op1 at h
  cases e1 : a.rd (now ρ o) with
  | none => rw [e1] at h; exact h.elim
  | some d =>
    rw [e1] at h
    have h : Post (ofO (f d) o) _ _ := h
    cases e2 : f d with
    | none => rw [e2] at h; exact h.elim
    | some d' =>
      rw [e2] at h
      obtain ⟨Fw, hw, Fd, rd⟩ := Tmp.read E.pre t e1
      have E2 := E.freeze (Fw := Fw) fun x hx => by
        rcases hw with e | e
        · rw [e] at hx; cases hx
        · rw [e] at hx; exact hx
      exact sem _ _ d d' v Fd Q E2.step.h rd e2 fun v' H' G' Fv' s r' => h v' H' (.of E2 s r')
theorem bi_den {r : R2} {f : D → D → Option D} {da db : Env → R (OV × Option Env)} (sem : Sem2 T f r) {σ : St} {H : Hp} {Q : VK}
    (h : tE T W (fun ρ => (da ρ).bind fun (x, o1) => (db (now ρ o1)).bind fun (y, o2) => op2 f x y o1 o2 ρ) σ H Q) : tO T W da σ H fun v H1 => tO T W db σ H1 fun u H2 => r v u H2 Q := by
  obtain ⟨G, ρ, F, P, h⟩ := h
  refine ⟨G, ρ, F, P, h.bind.imp (fun (a, o1) h v H1 ⟨G1, Fv, F1, E1, t1⟩ => ?_) fun _ _ _ z => z⟩
  refine ⟨G1, now ρ o1, F1, E1.pre, h.bind.imp (fun (b, o2) h u H2 ⟨G2, Fu, F2, E2, t2⟩ => ?_) (Xi.ev E1)⟩
  obtain ⟨x, y, d, G3, Fx, Fy, fm, e1, e2, ed, h, E3, rx, ry⟩ := two_den h E1 t1 E2 t2
  exact sem _ _ x y d v u Fx Fy Q E3.step.h rx ry ed fun v' H' G' Fv' s r' => h v' H' (.of E3 s r')
end

/-! ### indices -/
theorem place_ixN {i : Int} {n k : Nat} (h : place i n = some k) : ixN n i = some k := by
  unfold place at h
  unfold ixN
  by_cases h0 : 0 ≤ i
  · rw [if_pos h0] at h ⊢; exact h
  · rw [if_neg h0] at h ⊢
    by_cases h1 : 0 ≤ i + n
    · rw [if_pos h1] at h
      rw [if_pos (by omega)]; exact h
    · rw [if_neg h1] at h; cases h
theorem place_atI {α : Type} {xs : List α} {i : Int} {k : Nat} (h : place i xs.length = some k) : atI xs i = xs[k]? := by
  unfold atI
  rw [place_ixN h]
  rfl
/-- the n-th part of data is the n-th part of the object -/
def rIxN (T : Tab) : R2 := fun x y H Q => ∃ G dx dy Fx Fy n, Ext G H ∧ Rp T G H dx x Fx ∧ Rp T G H dy y Fy ∧ itemN dx dy = some n ∧
  ∀ u vs F', RpL T G H (kidsAny dx) vs F' → vs[n]? = some u → (∀ xs, kids dx = some xs → KV T H dx x vs) → Q u H
theorem getElem?_someD {α : Type} {xs : List α} {n : Nat} (h : n < xs.length) : ∃ v, xs[n]? = some v := ⟨xs[n], List.getElem?_eq_getElem h⟩
theorem place_lt {i : Int} {n k : Nat} (h : place i n = some k) : k < n := by
  unfold place at h
  split at h
  · split at h
    · cases h; omega
    · cases h
  · split at h
    · cases h; omega
    · cases h
section
variable {X : Cx} {T : Tab} {W : WX} {C : Cfg} {ea eb : Expr} {pos : Pos}
theorem ix_R (hK : X.K = T.K) (hu : X.A.units + 1 < cLine) : IxR X (rIxN T) := by
  intro value slice pins s σ H x y v u Q I rx ry ⟨G, dx, dy, Fx, Fy, n, ex, qx, qy, e, k⟩ hs
  unfold itemN at e
  split at e
  · obtain ⟨p, vs, F', rfl, hp, r1⟩ := qx.lst ex
    cases qy.int
    have hl := r1.length
    have lt := place_lt e
    rw [← hl] at e lt
    obtain ⟨w, ew⟩ := getElem?_someD lt
    refine ix_list value slice pins s σ H _ _ v u Q I rx ry ⟨p, vs, _, w, rfl, rfl, .inl (.inl hp), by rw [place_atI e]; exact ew, k w vs F' r1 ew fun xs hk => ?_⟩ hs
    rename_i o _ _
    cases o with
    | true => exact ⟨p, rfl, hp⟩
    | false => cases hk
  · obtain ⟨p, vs, rfl, hp, r1⟩ := qx.tup ex
    cases qy.int
    have hl := r1.length
    have lt := place_lt e
    rw [← hl] at e lt
    obtain ⟨w, ew⟩ := getElem?_someD lt
    exact ix_tup value slice pins s σ H _ _ v u Q I rx ry ⟨p, vs, _, w, rfl, rfl, by rw [hK]; exact hp, by rw [place_atI e]; exact ew, k w vs _ r1 ew fun xs hk => by cases hk⟩ hs
  · rename_i ns i
    obtain ⟨⟨p, rfl, hp⟩, _⟩ := qx
    cases qy.int
    have hl : (ns.map V.int).length = ns.length := List.length_map ..
    have lt := place_lt e
    rw [← hl] at e lt
    obtain ⟨w, ew⟩ := getElem?_someD lt
    exact ix_list value slice pins s σ H _ _ v u Q I rx ry ⟨p, _, _, w, rfl, rfl, by rw [hK]; exact ex.sqL hp, by rw [place_atI e]; exact ew, k w _ [] (RpL.ofInts ns) ew fun xs hk => by cases hk⟩ hs
  · rename_i o kk ks ds
    obtain ⟨ek, p, kvs, F', rfl, eks, r1, nd, hz, hp⟩ := qx.dct ex
    subst ek
    split at e
    · rename_i hk
      obtain ⟨key, _, ed⟩ := keyOk_of hk
      subst ed
      have hx := qy.key
      subst hx
      subst eks
      rcases findD_key key kvs with ⟨e1, _⟩ | ⟨n', p', e1, e2, e3, e4⟩
      · rw [e1] at e; cases e
      · rw [e1] at e
        cases e
        cases (show v = Value.ref p from rx)
        have g : DGet H p (kV key) (valV kvs key) := .k hp
        rw [e4] at g
        refine PyProof.Rows.tail_any (dict_typeIs I g) PySem.slot_dict_getitem.lookup (d_getItem hu I g ry fun w' s' I' rw' => ⟨p'.2, H, I', rw', k _ _ F' r1 (by rw [List.getElem?_map, e2]; rfl) fun xs hk => ?_⟩) hs
        revert hk; cases o <;> intro hk
        · cases hk
        · exact ⟨p, kvs, rfl, hp, rfl⟩
    · cases e
  · cases e
theorem PV.snoc {H : Hp} : ∀ {π : List Nat} {d c c' : D} {v x u : V} {vs : List V} {xs : List D} {n : Nat}, PV T H d v π x → getP d π = some c → KV T H c x vs → vs[n]? = some u → kids c = some xs → xs[n]? = some c' → PV T H d v (π ++ [n]) u
  | [], d, c, c', v, x, u, vs, xs, n, h, e, k, e1, e2, e3 => by
    cases (show v = x from h)
    cases e
    exact ⟨vs, u, k, e1, xs, c', e2, e3, rfl⟩
  | m :: π, d, c, c', v, x, u, vs, xs, n, h, e, k, e1, e2, e3 => by
    obtain ⟨ws, w, k1, f1, ys, c1, f2, f3, h⟩ := h
    simp only [getP, f2, f3] at e
    exact ⟨ws, w, k1, f1, ys, c1, f2, f3, PV.snoc h e k e1 e2 e3⟩
theorem kids_any {d : D} {xs : List D} (h : kids d = some xs) : kidsAny d = xs := by
  unfold kids at h
  split at h <;> cases h <;> rfl
theorem getS_getP {ρ : Env} {i : Nat} {π : List Nat} {d : D} (h : getS ρ i π = some d) : getP (slot ρ i) π = some d := by
  unfold getS at h
  split at h
  · cases h
  · exact h
theorem VAt.snoc {H : Hp} {ρ : Env} {σ : St} {i n : Nat} {π : List Nat} {x u : V} {c c' : D} {vs : List V} {xs : List D} (h : VAt T H ρ σ i π x) (e : getS ρ i π = some c) (k : KV T H c x vs) (e1 : vs[n]? = some u) (e2 : kids c = some xs) (e3 : xs[n]? = some c') : VAt T H ρ σ i (π ++ [n]) u := by
  obtain ⟨v, ev, h⟩ := h
  exact ⟨v, ev, h.snoc (getS_getP e) k e1 e2 e3⟩
theorem plainIx_ok {b : Expr} (h : (match b with | .Slice _ _ none _ => false | _ => true) = true) : PlainIx b := by
  intro o i
  unfold subscripted
  split
  · cases h
  · rename_i q; cases q
  · rfl
/-- a part: a value, or a place -/
theorem part_ok {a : OV} {d c : D} {n : Nat} {o : Option Env} {G H G1 H1 : Hp} {F F1 : List Addr} {ρ : Env} {σ : St} {x u : V} {vs : List V} {F' : List Addr} {Q : VK}
    (h : Post (match sh c with
          | true => .ok (.tm c, o)
          | false => match a, kids d with
            | .pl i π, some _ => .ok (.pl i (π ++ [n]), o)
            | _, _ => .stuck : R (OV × Option Env)) (fun (a, o) => ∀ v H', OkO T G H F ρ σ o a v H' → Q v H') (Xi T W G H F σ))
    (E : Ev T G H F ρ σ o G1 H1 [] F1) (t : ∀ i π, a = .pl i π → VAt T H1 (now ρ o) σ i π x ∧ getS (now ρ o) i π = some d)
    (ec : (kidsAny d)[n]? = some c) (rl : RpL T G1 H1 (kidsAny d) vs F') (eu : vs[n]? = some u) (kv : ∀ xs, kids d = some xs → KV T H1 d x vs) : Q u H1 := by
  cases hs : sh c with
  | true =>
    rw [hs] at h
    obtain ⟨v, Fz, e1, r1, _⟩ := rl.get ec
    rw [eu] at e1
    cases e1
    exact h u H1 ⟨G1, [], F1, E, Rp.sh hs r1 (.refl _)⟩
  | false =>
    rw [hs] at h
    cases a with
    | tm _ => exact h.elim
    | pl i π =>
      cases hk : kids d with
      | none => simp only [hk] at h; exact h.elim
      | some xs =>
        simp only [hk] at h
        obtain ⟨va, eg⟩ := t i π rfl
        refine h u H1 ⟨G1, [], F1, E, rfl, va.snoc eg (kv xs hk) eu hk (by rw [kids_any hk] at ec; exact ec)⟩
theorem o_ix {p : P} {e : E} (hK : X.K = T.K) (hu : X.A.units + 1 < cLine) (ha : PE X ea (tO T W (dP C p))) (hb : PE X eb (tE T W (dE C e))) (hs : PlainIx eb) : PE X (.Subscript ea eb pos) (tO T W (dP C (.ix p e))) := by
  refine (pe_ix (ix_R hK hu) ha hb hs).weak fun σ H Q ⟨G, ρ, F, P, h⟩ => ?_
  simp only [dP] at h
  refine ⟨G, ρ, F, P, h.bind.imp (fun (a, o1) h v H1 ⟨G1, Fv, F1, E1, t1⟩ => ?_) fun _ _ _ z => z⟩
  refine ⟨G1, now ρ o1, F1, E1.pre, (Post.bind h).imp (fun (k, o2) h u H2 ⟨G2, Fu, F2, E2, r2⟩ => ?_) (Xi.ev E1)⟩
  simp only at h t1 E1 E2
  cases fm : (a.firm || o2.isNone) with
  | false => simp only [fm] at h; exact h.elim
  | true =>
    simp only [fm] at h
    have E := E1.trans t1.trk E2
    have t1' := E2.keepTmp t1 E1.apart fm
    cases er : a.rd (now (now ρ o1) o2) with
    | none => simp only [er] at h; exact h.elim
    | some d =>
      simp only [er] at h
      obtain ⟨Fw, hw, Fd, rd⟩ := Tmp.read E2.pre t1' er
      have E3 := E.freeze (Fw := Fw) fun x hx => by
        rcases hw with e | e
        · rw [e] at hx; cases hx
        · rw [e] at hx; exact List.mem_append_left _ hx
      cases en : itemN d k with
      | none => simp only [en] at h; exact h.elim
      | some n =>
        simp only [en] at h
        cases ec : (kidsAny d)[n]? with
        | none => simp only [ec] at h; exact h.elim
        | some c =>
          simp only [ec] at h
          refine ⟨_, d, k, Fd, Fu, n, E3.step.h, rd, Rp.mono (lay_ext E2.pre.ex) k u Fu r2 (fun _ _ _ q => q), en, fun w vs F' rl ew kv => ?_⟩
          refine part_ok h E3 (x := v) (fun i π ea => ?_) ec rl ew kv
          subst ea
          rw [now_now] at t1' er
          exact ⟨t1'.2, er⟩
theorem itemD_of {x y d : D} (e : itemD x y = some d) : ∃ n, itemN x y = some n ∧ (kidsAny x)[n]? = some d ∧ sh d = true := by
  unfold itemD at e
  split at e
  · rename_i n en
    split at e
    · rename_i c ec
      split at e
      · rename_i hs
        cases e
        exact ⟨n, en, ec, hs⟩
      · cases e
    · cases e
  · cases e
theorem sem_ix (T : Tab) : Sem2 T itemD (rIxN T) := fun G H x y d v u Fv Fu Q ex rx ry e n => by
  obtain ⟨k, e1, e2, e3⟩ := itemD_of e
  refine ⟨G, x, y, Fv, Fu, k, ex, rx, ry, e1, fun w vs F' rl ew _ => ?_⟩
  obtain ⟨w', Fz, e4, r1, _⟩ := rl.get e2
  rw [ew] at e4
  cases e4
  exact n.val ex (Rp.sh e3 r1 (.refl _))
theorem e_sub {a b : O} (hK : X.K = T.K) (hu : X.A.units + 1 < cLine) (ha : PE X ea (tO T W (dO C a))) (hb : PE X eb (tO T W (dO C b))) (hs : PlainIx eb) : PE X (.Subscript ea eb pos) (tE T W (dE C (.sub a b))) := by
  refine (pe_ix (ix_R hK hu) ha hb hs).weak fun σ H Q h => ?_
  simp only [dE] at h
  exact bi_den (sem_ix T) h

/-! ### fields -/
structure ClsOk (X : Cx) (T : Tab) : Prop where
  cls : ∀ c, Cls X.K (T.ca c)
  no : ∀ c f, f < T.nf → NoAttr X.K (T.ca c) (T.fnm f)
theorem fldN_mem {f : Nat} : ∀ {fs : List Nat} {n : Nat}, fldN f fs = some n → f ∈ fs
  | [], n, e => by cases e
  | g :: r, n, e => by
    unfold fldN at e
    split at e
    · rename_i h; subst h; exact List.mem_cons_self
    · cases q : fldN f r with
      | none => rw [q] at e; cases e
      | some m => exact List.mem_cons_of_mem _ (fldN_mem q)
theorem fld_lookup {f : Nat} (hf : f < T.nf) : ∀ {fs : List Nat} {n : Nat} {vs : List V} {v : V}, (∀ g ∈ fs, g < T.nf) → fldN f fs = some n → vs[n]? = some v → ((fs.map T.fnm).zip vs).lookup (T.fnm f) = some v
  | [], n, vs, v, _, e, _ => by cases e
  | g :: r, n, [], v, _, e, ev => by simp at ev
  | g :: r, n, w :: vs, v, lt, e, ev => by
    unfold fldN at e
    simp only [List.map_cons, List.zip_cons_cons, List.lookup_cons]
    split at e
    · rename_i h
      subst h
      cases e
      simp only [List.getElem?_cons_zero, Option.some.injEq] at ev
      subst ev
      simp
    · rename_i h
      cases q : fldN f r with
      | none => rw [q] at e; cases e
      | some m =>
        rw [q] at e
        cases e
        have ne : ¬ T.fnm f = T.fnm g := fun z => h (T.inj g f (lt g List.mem_cons_self) hf z.symm)
        have ne' : (T.fnm f == T.fnm g) = false := beq_eq_false_iff_ne.mpr ne
        rw [ne']
        exact fld_lookup hf (fun a ha => lt a (List.mem_cons_of_mem _ ha)) q (by simpa using ev)
theorem Rp.fld {G H : Hp} {o : Bool} {c : Nat} {fs : List Nat} {ds : List D} {x : V} {F : List Addr} {f n : Nat} (r : Rp T G H (.ins o c fs ds) x F) (ex : Ext G H) (e : fldN f fs = some n) :
    ∃ a dx fvs vs F', x = .ref a ∧ H a = some (.ins (T.ca c) dx fvs) ∧ f < T.nf ∧ RpL T G H ds vs F' ∧ (∀ v, vs[n]? = some v → fvs.lookup (T.fnm f) = some v) ∧ ∀ xs, kids (.ins o c fs ds) = some xs → KV T H (.ins o c fs ds) x vs := by
  obtain ⟨p, dx, vs, F', rfl, rl, len, nd, lt, ne, q⟩ := r
  have hf := lt f (fldN_mem e)
  cases o with
  | true => exact ⟨p, dx, _, vs, F', rfl, q.1, hf, rl, fun v ev => fld_lookup hf lt e ev, fun xs _ => ⟨p, dx, _, rfl, q.1, by rw [rl.length, len]⟩⟩
  | false => exact ⟨p, dx, _, vs, F', rfl, ex _ _ q.1, hf, rl, fun v ev => fld_lookup hf lt e ev, fun xs hk => by cases hk⟩
theorem attrBase_ok {X : Cx} {e : Expr} (f : Str) (h : (match e with | .Call (.Name _ _) [] [] _ => false | _ => true) = true) : attributeBase e f X.env (eval e X.env) = eval e X.env := by
  unfold attributeBase
  split
  · cases h
  · rfl
theorem o_fld {p : P} {f : Nat} (co : ClsOk X T) (ha : PE X ea (tO T W (dP C p))) (hb : attributeBase ea (T.fnm f) X.env (eval ea X.env) = eval ea X.env) : PE X (.Attribute ea (T.fnm f) pos) (tO T W (dP C (.fld p f))) := by
  refine (pe_fld ha hb).weak fun σ H Q ⟨G, ρ, F, P, h⟩ => ?_
  simp only [dP] at h
  refine ⟨G, ρ, F, P, h.bind.imp (fun (a, o1) h v H1 ⟨G1, Fv, F1, E1, t1⟩ => ?_) fun _ _ _ z => z⟩
  simp only at h t1 E1
  cases er : a.rd (now ρ o1) with
  | none => simp only [er] at h; exact h.elim
  | some d =>
    simp only [er] at h
    obtain ⟨Fw, hw, Fd, rd⟩ := Tmp.read E1.pre t1 er
    have E3 := E1.freeze (Fw := Fw) fun x hx => by
      rcases hw with e | e
      · rw [e] at hx; cases hx
      · rw [e] at hx; exact hx
    cases d with
    | ins own c fs ds =>
      simp only at h
      cases en : fldN f fs with
      | none => simp only [en] at h; exact h.elim
      | some n =>
        simp only [en] at h
        cases ec : ds[n]? with
        | none => simp only [ec] at h; exact h.elim
        | some c' =>
          simp only [ec] at h
          obtain ⟨b, dx, fvs, vs, F', rfl, hp, hf, rl, lk, kv⟩ := rd.fld E3.step.h en
          obtain ⟨u, Fz, eu, _, _⟩ := rl.get ec
          refine ⟨b, _, dx, fvs, u, rfl, hp, co.cls c, co.no c f hf, lk u eu, ?_⟩
          refine part_ok h E3 (x := V.ref b) (fun i π ea => ?_) ec rl eu kv
          subst ea
          exact ⟨t1.2, er⟩
    | _ => exact h.elim
theorem e_fldv {a : O} {f : Nat} (co : ClsOk X T) (ha : PE X ea (tO T W (dO C a))) (hb : attributeBase ea (T.fnm f) X.env (eval ea X.env) = eval ea X.env) : PE X (.Attribute ea (T.fnm f) pos) (tE T W (dE C (.fldv a f))) := by
  refine (pe_fld ha hb).weak fun σ H Q h => ?_
  simp only [dE] at h
  refine (un_den (sem_op1 T (fldS f)) h).mono fun v H1 z => ?_
  obtain ⟨G, d, d', Fd, ex, rd, e, n⟩ := z
  unfold fldS at e
  split at e
  · split at e
    · cases e
    · rename_i m em
      split at e
      · rename_i c ec
        split at e
        · rename_i hs
          cases e
          obtain ⟨b, dx, fvs, vs, F', rfl, hp, hf, rl, lk, kv⟩ := rd.fld ex em
          obtain ⟨u, Fz, eu, ru, _⟩ := rl.get ec
          exact ⟨b, _, dx, fvs, u, rfl, hp, co.cls _, co.no _ f hf, lk u eu, n.val ex (Rp.sh hs ru (.refl _))⟩
        · cases e
      · cases e
  · cases e
end
end Mp
/-! Slices, displays, operand lists, built-ins. -/
namespace Mp
open PySem L2

theorem firm3 {f a b : Bool} (h : (f || (a && b)) = true) : (f || a) = true ∧ (f || b) = true := by revert h; cases f <;> cases a <;> cases b <;> decide
/-! ### expressions without stars -/
def plainE (e : Expr) : Bool := match e with
  | .Starred _ _ => false
  | _ => true
theorem star_cons {e : Expr} (h : plainE e = true) (es : List Expr) (env : PySem.Env) : starEach (e :: es) env = (false, eval e env) :: starEach es env := by
  cases e <;> first | rfl | cases h
theorem star_any : ∀ {es : List Expr} (h : es.all plainE = true) (env : PySem.Env) (pos : Pos), (backTo pos (starEach es env)).any (·.1) = false
  | [], _, _, _ => rfl
  | e :: es, h, env, pos => by
    rw [List.all_cons, Bool.and_eq_true] at h
    rw [star_cons h.1]
    show (false || (backTo pos (starEach es env)).any (·.1)) = false
    rw [star_any h.2 env pos]
    rfl
theorem star_all : ∀ {es : List Expr} (h : es.all plainE = true) (env : PySem.Env) (pos : Pos), (backTo pos (starEach es env)).all (fun x => !x.1) = true
  | [], _, _, _ => rfl
  | e :: es, h, env, pos => by
    rw [List.all_cons, Bool.and_eq_true] at h
    rw [star_cons h.1]
    show (true && (backTo pos (starEach es env)).all (fun x => !x.1)) = true
    rw [star_all h.2 env pos]
    rfl
theorem few_ok {e : Expr} {es : List Expr} {pos : Pos} {env : PySem.Env} (h : (e :: es).all plainE = true) (l : (e :: es).length < 30) :
    ((backTo pos (starEach (e :: es) env)).all (fun x => !x.1) && (backToKw pos (keywordEach [] env)).all (fun x => x.1.isSome)
      && decide ((e :: es).length + ([] : List Keyword).length + (if ([] : List Keyword).isEmpty then 0 else 1) < 30)) = true := by
  rw [star_all h]
  show decide ((e :: es).length + 0 + 0 < 30) = true
  exact decide_eq_true l

section
variable {X : Cx} {T : Tab} {W : WX} {C : Cfg} {ea eb : Expr} {es : List Expr} {pos : Pos}
/-! ### lists of operands, of values -/
theorem os_nil : PA X [] (tOs T W (dOs C .nil)) := by
  refine pa_nil.weak fun σ H Q ⟨G, ρ, F, P, h⟩ => ?_
  simp only [dOs] at h
  exact h [] H ⟨G, [], F, P.ev0, rfl, rfl⟩
theorem TmpL.trk {G H : Hp} {ρ : Env} {σ : St} : ∀ {as : List OV} {vs : List V} {F : List Addr}, TmpL T G H ρ σ as vs F → Trk H F
  | [], vs, F, h => by obtain ⟨_, rfl⟩ := h; exact fun _ z => nomatch z
  | a :: as, vs, F, h => by
    obtain ⟨v, ws, F1, F2, _, rfl, t, r⟩ := h
    intro x hx
    rcases List.mem_append.mp hx with z | z
    · exact t.trk x z
    · exact TmpL.trk r x z
theorem os_cons {a : O} {as : Os} (ha : PE X ea (tO T W (dO C a))) (hs : PA X es (tOs T W (dOs C as))) (pl : plainE ea = true) : PA X (ea :: es) (tOs T W (dOs C (.cons a as))) := by
  refine (pa_cons ha hs (star_cons pl es X.env)).weak fun σ H Q ⟨G, ρ, F, P, h⟩ => ?_
  simp only [dOs] at h
  refine ⟨G, ρ, F, P, h.bind.imp (fun (x, o1) h v H1 ⟨G1, Fv, F1, E1, t1⟩ => ?_) fun _ _ _ z => z⟩
  refine ⟨G1, now ρ o1, F1, E1.pre, (Post.bind h).imp (fun (xs, o2) h us H2 ⟨G2, Fu, F2, E2, t2⟩ => ?_) (Xi.ev E1)⟩
  simp only at h t1 t2 E1 E2
  cases fm : (x.firm || o2.isNone) with
  | false => simp only [fm] at h; exact h.elim
  | true =>
    simp only [fm] at h
    refine h (v :: us) H2 ⟨G2, Fv ++ Fu, F2, E1.trans t1.trk E2, v, us, Fv, Fu, rfl, rfl, ?_, ?_⟩
    · have := E2.keepTmp t1 E1.apart fm
      rw [now_now] at this
      exact this
    · rw [now_now] at t2
      exact t2
theorem es_nil : PA X [] (tEs T W (dEs C .nil)) := by
  refine pa_nil.weak fun σ H Q ⟨G, ρ, F, P, h⟩ => ?_
  simp only [dEs] at h
  exact h [] H ⟨G, [], F, P.ev0, rfl, rfl⟩
theorem es_cons {a : E} {as : Es} (ha : PE X ea (tE T W (dE C a))) (hs : PA X es (tEs T W (dEs C as))) (pl : plainE ea = true) : PA X (ea :: es) (tEs T W (dEs C (.cons a as))) := by
  refine (pa_cons ha hs (star_cons pl es X.env)).weak fun σ H Q ⟨G, ρ, F, P, h⟩ => ?_
  simp only [dEs] at h
  refine ⟨G, ρ, F, P, h.bind.imp (fun (x, o1) h v H1 ⟨G1, Fv, F1, E1, t1⟩ => ?_) fun _ _ _ z => z⟩
  refine ⟨G1, now ρ o1, F1, E1.pre, (Post.bind h).imp (fun (xs, o2) h us H2 ⟨G2, Fu, F2, E2, t2⟩ => ?_) (Xi.ev E1)⟩
  exact h (v :: us) H2 ⟨G2, Fv ++ Fu, F2, E1.trans (Rp.trk _ _ _ t1) E2, v, us, Fv, Fu, rfl, rfl, E2.keepRp t1 E1.apart, t2⟩
/-! ### displays -/
theorem e_lst {as : Es} (h : PA X es (tEs T W (dEs C as))) : PE X (.List es pos) (tE T W (dE C (.lst as))) := by
  refine (pe_lst h).weak fun σ H Q ⟨G, ρ, F, P, h⟩ => ?_
  simp only [dE] at h
  refine ⟨G, ρ, F, P, h.bind.imp (fun (xs, o1) h vs H1 ⟨G1, Fv, F1, E1, r1⟩ => ?_) fun _ _ _ z => z⟩
  simp only at h E1 r1
  split at h
  · rename_i hl
    have e := r1.length
    refine ⟨by rw [e, ← line_eq]; exact hl, fun p hp => ?_⟩
    have E := E1.trans (RpL.trk _ _ _ r1) (New.ev E1.pre (.newO (o := .lst vs) E1.step.h hp))
    have r2 : RpL T G1 (upd H1 p (.lst vs)) xs vs Fv := RpL.mono (.refl _) xs vs Fv r1 fun a ha o q => Ext.new hp a o q
    have nd := (List.nodup_append.mp E.step.nd).1
    refine h (.ref p) _ ⟨_, p :: Fv, F1, E.drop ((List.perm_append_comm (l₁ := Fv) (l₂ := [p])).nodup_iff.mp nd) fun x hx => ?_, p, vs, Fv, rfl, upd_same, r2, rfl⟩
    rcases List.mem_cons.mp hx with z | z
    · exact List.mem_append_right _ (by rw [z]; simp)
    · exact List.mem_append_left _ z
  · exact h.elim
theorem e_tup {as : Es} {x1 : _} (h : PA X es (tEs T W (dEs C as))) : PE X (.Tuple es x1 pos) (tE T W (dE C (.tup as))) := by
  refine (pe_tup h).weak fun σ H Q ⟨G, ρ, F, P, h⟩ => ?_
  simp only [dE] at h
  refine ⟨G, ρ, F, P, h.bind.imp (fun (xs, o1) h vs H1 ⟨G1, Fv, F1, E1, r1⟩ => ?_) fun _ _ _ z => z⟩
  simp only at h E1 r1
  split at h
  · rename_i hl
    have e := r1.length
    refine ⟨by rw [e, ← line_eq]; exact hl, fun p hp => ?_⟩
    have E := E1.trans (RpL.trk _ _ _ r1) (New.ev E1.pre (.newS (o := .tup vs) E1.step.h hp))
    rw [List.append_nil] at E
    have r2 : RpL T (upd G1 p (.tup vs)) (upd H1 p (.tup vs)) xs vs Fv := RpL.mono (.new (E1.step.h.back hp)) xs vs Fv r1 fun a ha o q => Ext.new hp a o q
    exact h (.ref p) _ ⟨_, Fv, F1, E, p, vs, rfl, SqT.of upd_same, r2⟩
  · exact h.elim
theorem e_dnew : PE X (.Dict [] [] pos) (tE T W (dE C (.dnew true))) := by
  refine pe_dnewK.weak fun σ H Q ⟨G, ρ, F, P, h⟩ p hp => ?_
  simp only [dE] at h
  exact h (.ref p) _ ⟨_, [p], F, New.ev P (.newO P.ex hp), rfl, p, [], [], rfl, rfl, ⟨rfl, rfl⟩, List.nodup_nil, Nat.zero_le _, upd_same, rfl⟩
/-! ### slices -/
theorem cut_take {α : Type} (xs : List α) (l h : Nat) : (xs.take h).drop l = (xs.drop l).take (h - l) := by rw [List.drop_take]
theorem sIx_lo (n : Nat) (a : Option Int) : (a.map fun i => clampI i n).getD 0 = HT.sIx n 0 a := by cases a <;> rfl
theorem sIx_hi (n : Nat) (a : Option Int) : (a.map fun i => clampI i n).getD n = HT.sIx n n a := by cases a <;> rfl
theorem RpL.cut {G H : Hp} {xs : List D} {vs : List V} (r : RpL T G H xs vs []) (a b : Option Int) : RpL T G H (cut xs a b) (cutV vs a b) [] := by
  unfold Mp.cut cutV
  rw [r.length, ← sIx_lo, ← sIx_hi]
  simp only
  rw [cut_take]
  exact (r.drop _).take _
theorem cut_whole {xs : List D} {a b : Option Int} (h : HT.sIx xs.length 0 a = 0 ∧ HT.sIx xs.length xs.length b = xs.length) : cut xs a b = xs := by
  unfold Mp.cut
  simp only
  rw [sIx_lo, sIx_hi, h.1, h.2]
  simp
def rCut (T : Tab) : V → Option Int → Option Int → Hp → VK → Prop := fun x lo hi H Q => ∃ G dx d Fx, Ext G H ∧ Rp T G H dx x Fx ∧ cutD dx lo hi = some d ∧ New T G H d Q
theorem sl_R (hK : X.K = T.K) : SlR X (rCut T) := by
  intro pins s σ H x v vl vu lo hi sl Q I rx hs pl pu ⟨G, dx, d, Fx, ex, qx, e, n⟩
  unfold cutD at e
  split at e
  · split at e
    · rename_i hsh
      cases e
      obtain ⟨p, vs, F', rfl, hp, r1⟩ := qx.lst ex
      have r2 : RpL T G H _ vs [] := RpL.sh hsh r1 (.refl _)
      exact sl_list pins s σ H _ v vl vu lo hi sl Q I rx hs pl pu ⟨p, vs, rfl, .inl (.inl hp), fun q hq => n.lst ex (r2.cut lo hi) hq⟩
    · cases e
  · split at e
    · rename_i hsh
      cases e
      obtain ⟨p, vs, rfl, hp, r1⟩ := qx.tup ex
      have r2 : RpL T G H _ vs [] := RpL.sh hsh r1 (.refl _)
      refine sl_tupA pins s σ H _ v vl vu lo hi sl Q I rx hs pl pu ⟨p, vs, rfl, by rw [hK]; exact hp, fun w => ?_, fun _ q hq => n.tup ex (r2.cut lo hi) hq⟩
      rw [r1.length] at w
      rw [cut_whole w] at n
      exact n.val ex (Rp.sh (d := .tup _) (by simpa only [sh] using hsh) qx (.refl _))
    · cases e
  · cases e
def tOpt (T : Tab) (W : WX) (den : Env → R (List D × Option Env)) : TO := fun σ H Q => ∃ G ρ F, Pre T G H ρ σ F ∧ Post (den ρ) (fun (ds, o) => ∃ i, optI ds = some i ∧ ∀ H', OkB T G H F ρ σ o H' → Q i H') (Xi T W G H F σ)
theorem opt_none : PO X none (tOpt T W (dEs C .nil)) := by
  refine ⟨fun pins s σ H Q I ⟨G, ρ, F, P, h⟩ => po_none.run pins s σ H Q I ?_⟩
  simp only [dEs] at h
  obtain ⟨i, e, h⟩ := h
  cases e
  exact h H ⟨G, F, P.ev0⟩
theorem opt_some {a : E} (ha : PE X ea (tE T W (dE C a))) : PO X (some ea) (tOpt T W (dEs C (.cons a .nil))) := by
  refine ⟨fun pins s σ H Q I ⟨G, ρ, F, P, h⟩ => (po_some ha).run pins s σ H Q I ?_⟩
  simp only [dEs] at h
  refine ⟨G, ρ, F, P, h.bind.imp (fun (d, o) h v H1 k => ?_) fun _ _ _ z => z⟩
  obtain ⟨i, e, h⟩ := h
  cases d with
  | int j =>
    cases e
    obtain ⟨G1, Fv, F1, E, r⟩ := id k
    exact ⟨j, r.int, h H1 k.b⟩
  | _ => cases e
theorem e_slc {a : O} {lo hi : Es} {k : Nat} {el eh : Option Expr} {p2 : Pos} (hK : X.K = T.K) (ha : PE X ea (tO T W (dO C a))) (hl : PO X el (tOpt T W (dEs C lo))) (hh : PO X eh (tOpt T W (dEs C hi))) : PE X (.Subscript ea (.Slice el eh none p2) pos) (tE T W (dE C (.slc a lo hi k))) := by
  refine (pe_slice (sl_R hK) ha hl hh).weak fun σ H Q ⟨G, ρ, F, P, h⟩ => ?_
  simp only [dE] at h
  refine ⟨G, ρ, F, P, h.bind.imp (fun (x, o1) h v H1 ⟨G1, Fv, F1, E1, t1⟩ => ?_) fun _ _ _ z => z⟩
  refine ⟨G1, now ρ o1, F1, E1.pre, (Post.bind h).imp (fun (l, o2) h => ?_) (Xi.ev E1)⟩
  simp only at h t1 E1
  cases el : optI l with
  | none => simp only [el] at h; exact h.elim
  | some i =>
    simp only [el] at h
    refine ⟨i, el, fun H2 ⟨G2, F2, E2⟩ => ?_⟩
    have E12 := E1.nil.trans (fun _ z => nomatch z) E2
    refine ⟨G2, now (now ρ o1) o2, F2, E2.pre, h.bind.imp (fun (l2, o3) h => ?_) fun c x r z => ?_⟩
    · simp only at h
      cases eh : optI l2 with
      | none => simp only [eh] at h; exact h.elim
      | some j =>
        simp only [eh] at h
        refine ⟨j, eh, fun H3 ⟨G3, F3, E3⟩ => ?_⟩
        cases fm : (x.firm || (o2.isNone && o3.isNone)) with
        | false => simp only [fm] at h; exact h.elim
        | true =>
          simp only [fm] at h
          cases er : x.rd (now (now (now ρ o1) o2) o3) with
          | none => simp only [er] at h; exact h.elim
          | some d =>
            simp only [er] at h
            cases ed : cutD d i j with
            | none => simp only [ed] at h; exact h.elim
            | some d' =>
              simp only [ed] at h
              have f2 := (firm3 fm).1
              have f3 := (firm3 fm).2
              have ta := E2.keepTmp t1 E1.apart f2
              have Ea := E1.trans t1.trk E2
              have tb := E3.keepTmp ta (by rw [List.append_nil] at Ea; exact Ea.apart) f3
              have Eb := Ea.trans (by rw [List.append_nil]; exact ta.trk) (by rw [← now_now]; exact E3)
              rw [List.append_nil, List.append_nil] at Eb
              obtain ⟨Fw, hw, Fd, rd⟩ := Tmp.read E3.pre tb er
              have Ef := Eb.freeze (Fw := Fw) fun q hq => by
                rcases hw with e | e
                · rw [e] at hq; cases hq
                · rw [e] at hq; exact hq
              exact ⟨_, d, d', Fd, Ef.step.h, rd, ed, fun u H' G' Fu s r => h u H' (.of Ef s r)⟩
    · exact Xi.ev E2 c x r (Xi.ev E1 c x r z)
theorem orE_none (o : Option Env) : orE none o = o := rfl
/-! ### built-ins -/
theorem blt1 {b : Bl} {a : O} {σ : St} {H : Hp} {Q : VK} (h : tE T W (dE C (.blt b (.cons a .nil))) σ H Q) : tE T W (fun ρ => (dO C a ρ).bind fun (x, o) => op1 (fun d => blD b [d]) x o ρ) σ H Q := by
  obtain ⟨G, ρ, F, P, h⟩ := h
  refine ⟨G, ρ, F, P, ?_⟩
  simp only [dE, dOs] at h
  show Post ((dO C a ρ).bind fun (x, o) => op1 (fun d => blD b [d]) x o ρ) _ _
  cases ea : dO C a ρ with
  | ok q =>
    obtain ⟨x, o⟩ := q
    simp only [ea, R.bind, Option.isNone_none, Bool.or_true, orE, rdL] at h ⊢
    unfold op1
    cases er : x.rd (now ρ o) with
    | none => simp only [er] at h; exact h.elim
    | some d => simp only [er] at h ⊢; exact h
  | exc c x r => simp only [ea, R.bind] at h ⊢; exact h
  | stuck => simp only [ea, R.bind] at h; exact h.elim
theorem blt2 {b : Bl} {a a2 : O} {σ : St} {H : Hp} {Q : VK} (h : tE T W (dE C (.blt b (.cons a (.cons a2 .nil)))) σ H Q) :
    tE T W (fun ρ => (dO C a ρ).bind fun (x, o1) => (dO C a2 (now ρ o1)).bind fun (y, o2) => op2 (fun x y => blD b [x, y]) x y o1 o2 ρ) σ H Q := by
  obtain ⟨G, ρ, F, P, h⟩ := h
  refine ⟨G, ρ, F, P, ?_⟩
  simp only [dE, dOs] at h
  show Post ((dO C a ρ).bind fun (x, o1) => (dO C a2 (now ρ o1)).bind fun (y, o2) => op2 (fun x y => blD b [x, y]) x y o1 o2 ρ) _ _
  cases ea : dO C a ρ with
  | ok q =>
    obtain ⟨x, o⟩ := q
    simp only [ea, R.bind] at h ⊢
    cases eb : dO C a2 (now ρ o) with
    | ok q2 =>
      obtain ⟨y, o2⟩ := q2
      simp only [eb, R.bind, Option.isNone_none, Bool.or_true, orE_none] at h ⊢
      unfold op2
      cases fm : (x.firm || o2.isNone) with
      | false => simp only [fm] at h; exact h.elim
      | true =>
        simp only [fm, rdL, ← now_now] at h ⊢
        cases er : x.rd (now (now ρ o) o2) with
        | none => simp only [er] at h; exact h.elim
        | some d =>
          cases er2 : y.rd (now (now ρ o) o2) with
          | none => simp only [er, er2] at h; exact h.elim
          | some d2 => simp only [er, er2] at h ⊢; exact h
    | exc c x r => simp only [eb, R.bind] at h ⊢; exact h
    | stuck => simp only [eb, R.bind] at h; exact h.elim
  | exc c x r => simp only [ea, R.bind] at h ⊢; exact h
  | stuck => simp only [ea, R.bind] at h; exact h.elim
end
end Mp
/-! sorted of a list of tuples of whole numbers, of any lengths. -/
namespace Mp
open PySem PySem.W PySem.Calls PyProof.Rows L2
/-- the datum of a tuple of whole numbers -/
def tyI (k : List Int) : PyData := .tuple (k.map .int)
theorem alike_tyI (a b : List Int) : alike (tyI a) (tyI b) = true := by
  show alike (.tuple (a.map .int)) (.tuple (b.map .int)) = true
  rw [alike]
  exact alike_ints a b
section
variable {prog : Program} {w : World} {A : Around} {s : Shared}
/-- one empty tuple -/
theorem sorts_nil {v : Value} {as : List Addr} (r : Reads s.heap v (.tuple []) as) (hu : A.units < cLine) : SortsAt prog w A s (dataKind s.heap [.tuple []]) [v] := by
  have hal : AllAlike [.tuple []] := fun d hd d' hd' => by
    rw [List.mem_singleton.1 hd, List.mem_singleton.1 hd']
    exact alike_tyI [] []
  refine ⟨fun u hu => by
    rw [List.mem_singleton.1 hu]
    exact ⟨_, dataKind_some hal (List.mem_singleton.2 rfl) r⟩, tuples' true, ?_, fun h2 => absurd h2 (by simp)⟩
  intro E x y a b Q ha hb hq
  obtain ⟨d, as, hd, ra, rfl⟩ := dataKind_inv ha
  obtain ⟨d', as', hd', rb, rfl⟩ := dataKind_inv hb
  rw [List.mem_singleton.1 hd] at ra hq
  rw [List.mem_singleton.1 hd'] at rb hq
  have hq' : Q (dataLt (.tuple []) (.tuple [])) s := hq
  rw [dataLt_tuple] at hq'
  cases ra with
  | @tuple l o xs n _ _ h1 h2 h3 h4 =>
    cases rb with
    | @tuple l' o' xs' n' _ _ k1 k2 k3 k4 =>
      have n1 : xs.size = 0 := by simpa using SeqAt.ReadsAll.length _ _ _ h4
      have n2 : xs'.size = 0 := by simpa using SeqAt.ReadsAll.length _ _ _ k4
      refine kat_lt h1 h3 k1 k3 (katLex_alike [] [] 0 _ _ _ _ h4 k4 (by simp [alikeAll]) (by simp [PyData.depthAll]; omega) (fun hb _ x r t ex => by cases ex) (by rw [n1, n2]; simp) hq')
theorem sorted_tyI {l : Addr} {vs : List Value} {k : Value → List Int} {E : Value → Shared → Prop} {Q : Value → Shared → Prop} (hl : s.heap.IsList l vs.toArray) (hz : vs.length ≤ sizeLine) (hu : A.units + 3 < cLine) (er : ∀ v ∈ vs, ∃ as, Reads s.heap v (tyI (k v)) as) (hk : (∀ v ∈ vs, k v ≠ []) ∨ vs.length ≤ 1)
    (h : ∀ (h' : Heap) (d : Addr) (out : List Value), out = vs.mergeSort (dataLe false fun v => tyI (k v)) → (∀ b o, s.heap.get? b = some o → h'.get? b = some o) → s.heap.objs.size ≤ d → (∃ n, h'.get? d = some (seqObj "list" out.toArray n)) → Q (.ref d) { s with heap := h' }) :
    wpAny (model prog w) A (call (.builtin "sorted") [.ref l]) Q E s := by
  have e : EachIs (fun v b => v = b) vs vs := EachIs.of_zip rfl fun p hp => by
    have key : ∀ (l : List Value) (p : Value × Value), p ∈ l.zip l → p.1 = p.2 := by
      intro l
      induction l with
      | nil => intro p hp; simp at hp
      | cons x l ih =>
        intro p hp
        simp only [List.zip_cons_cons, List.mem_cons] at hp
        rcases hp with rfl | hp
        · rfl
        · exact ih p hp
    exact key vs p hp
  have er1 : EachIs (fun v b => ∃ as, Reads s.heap v (tyI (k b)) as) vs vs := by
    have key : ∀ (l : List Value), (∀ v ∈ l, ∃ as, Reads s.heap v (tyI (k v)) as) → EachIs (fun v b => ∃ as, Reads s.heap v (tyI (k b)) as) l l := by
      intro l
      induction l with
      | nil => intro _; exact .nil
      | cons x l ih => intro h; exact .cons (h x (by simp)) (ih fun v hv => h v (by simp [hv]))
    exact key vs er
  have hal : AllAlike (vs.map fun v => tyI (k v)) := AllAlike.of fun a b => alike_tyI _ _
  have er' : EachIs (fun v b => ∃ as, Reads (sortingHeap (copyHeap s.heap vs) (s.heap.objs.size + 1) vs) v (tyI (k b)) as) vs vs := er1.mono fun _ _ ⟨as, r⟩ => ⟨as, PyProof.Rows.Reads.keeps (fun _ _ => sorting_copy_old) r⟩
  have hd : ∀ v, (tyI (k v)).depth ≤ 1 := fun v => by
    unfold tyI
    simp only [PyData.depth, depth_ints]
    omega
  have u2 : A.in1.in1.units = A.units + 2 := rfl
  have hS : SortsAt prog w A.in1.in1 { s with heap := sortingHeap (copyHeap s.heap vs) (s.heap.objs.size + 1) vs } (dataKind (sortingHeap (copyHeap s.heap vs) (s.heap.objs.size + 1) vs) (vs.map fun v => tyI (k v))) vs := by
    have gen : (∀ v ∈ vs, k v ≠ []) → SortsAt prog w A.in1.in1 { s with heap := sortingHeap (copyHeap s.heap vs) (s.heap.objs.size + 1) vs } (dataKind (sortingHeap (copyHeap s.heap vs) (s.heap.objs.size + 1) vs) (vs.map fun v => tyI (k v))) vs := fun hk => by
      refine SortsAt.data (s := { s with heap := sortingHeap (copyHeap s.heap vs) (s.heap.objs.size + 1) vs }) (each_map (R := fun v d => ∃ as, Reads (sortingHeap (copyHeap s.heap vs) (s.heap.objs.size + 1) vs) v d as) (fun v => tyI (k v)) er') hal (.inl fun d hd => ?_) fun d hd' => ?_
      · obtain ⟨v, hv, rfl⟩ := List.mem_map.1 hd
        cases hkv : k v with
        | nil => exact absurd hkv (hk v hv)
        | cons x r => exact ⟨.int x, r.map .int, by simp [tyI, hkv]⟩
      · obtain ⟨v, hv, rfl⟩ := List.mem_map.1 hd'
        have := hd v
        rw [u2]; omega
    rcases hk with hk | hk
    · exact gen hk
    · obtain rfl | ⟨v, rfl⟩ : vs = [] ∨ ∃ v, vs = [v] := by
        cases vs with
        | nil => exact .inl rfl
        | cons v r =>
          cases r with
          | nil => exact .inr ⟨v, rfl⟩
          | cons _ _ => simp at hk
      · exact gen fun v hv => by simp at hv
      · by_cases hkv : k v = []
        · have e1 : ([v].map fun v => tyI (k v)) = [.tuple []] := by simp [tyI, hkv]
          rw [e1]
          cases er' with
          | cons h1 _ =>
            obtain ⟨as, r⟩ := h1
            have r : Reads (sortingHeap (copyHeap s.heap [v]) (s.heap.objs.size + 1) [v]) v (.tuple []) as := by
              have : tyI (k v) = .tuple [] := by simp [tyI, hkv]
              rw [← this]; exact r
            exact sorts_nil (s := { s with heap := sortingHeap (copyHeap s.heap [v]) (s.heap.objs.size + 1) [v] }) r (by rw [u2]; omega)
        · exact gen fun u hu => by rw [List.mem_singleton.1 hu]; exact hkv
  refine sorted_vals hl hS hz ?_
  have ho := sortVals_data (h' := sortingHeap (copyHeap s.heap vs) (s.heap.objs.size + 1) vs) (enc := fun v => tyI (k v)) false e er' hal
  have ho2 : ∀ (a b : List Value), EachIs (fun v b => v = b) a b → a = b := by
    intro a b h
    induction h with
    | nil => rfl
    | cons h _ ih => rw [h, ih]
  exact h _ _ _ (ho2 _ _ ho) (fun b o e => sortedAll_old e) (Nat.le_succ _) (sortedAll_at s.heap vs _)
end
theorem ltI_eq : ∀ a b : List Int, ltI a b = decide (a < b)
  | [], [] => by simp [ltI]
  | [], _ :: _ => by simp [ltI]
  | _ :: _, [] => by simp [ltI]
  | x :: a, y :: b => by
    rw [ltI, ltI_eq a b]
    rw [Bool.eq_iff_iff]
    simp [List.cons_lt_cons_iff]
theorem psorted : ∀ (xs ys : List (List Int)), xs.Perm ys → xs.Pairwise (fun a b => ¬ b < a) → ys.Pairwise (fun a b => ¬ b < a) → xs = ys
  | [], ys, h, _, _ => (List.Perm.eq_nil h.symm).symm
  | x :: xs, [], h, _, _ => absurd h.length_eq (by simp)
  | x :: xs, y :: ys, h, h1, h2 => by
    have p1 := List.pairwise_cons.1 h1
    have p2 := List.pairwise_cons.1 h2
    have hx : x ∈ y :: ys := h.mem_iff.1 (by simp)
    have hy : y ∈ x :: xs := h.mem_iff.2 (by simp)
    have e : x = y := by
      rcases List.mem_cons.1 hx with e | hx
      · exact e
      · rcases List.mem_cons.1 hy with e | hy
        · exact e.symm
        · have a := p1.1 y hy
          have b := p2.1 x hx
          exact List.le_antisymm (List.not_lt.1 a) (List.not_lt.1 b)
    subst e
    rw [psorted xs ys h.cons_inv p1.2 p2.2]
theorem insT_perm (x : List Int) : ∀ l : List (List Int), (insT x l).Perm (x :: l)
  | [] => List.Perm.refl _
  | y :: l => by
    simp only [insT]
    split
    · exact ((insT_perm x l).cons y).trans (List.Perm.swap x y l)
    · exact List.Perm.refl _
theorem sortT_perm : ∀ l : List (List Int), (sortT l).Perm l
  | [] => List.Perm.refl _
  | x :: l => (insT_perm x _).trans ((sortT_perm l).cons x)
theorem insT_sorted (x : List Int) : ∀ l : List (List Int), l.Pairwise (fun a b => ¬ b < a) → (insT x l).Pairwise (fun a b => ¬ b < a)
  | [], _ => by simp [insT]
  | y :: l, h => by
    have p := List.pairwise_cons.1 h
    simp only [insT]
    split
    · rename_i hy
      rw [ltI_eq, decide_eq_true_iff] at hy
      refine List.pairwise_cons.2 ⟨fun z hz => ?_, insT_sorted x l p.2⟩
      rcases List.mem_cons.1 ((insT_perm x l).mem_iff.1 hz) with rfl | hz
      · exact fun q => List.lt_irrefl _ (List.lt_trans q hy)
      · exact p.1 z hz
    · rename_i hy
      rw [ltI_eq, decide_eq_true_iff] at hy
      refine List.pairwise_cons.2 ⟨fun z hz => ?_, h⟩
      rcases List.mem_cons.1 hz with rfl | hz
      · exact hy
      · have := p.1 z hz
        exact List.not_lt.2 (List.le_trans (List.not_lt.1 hy) (List.not_lt.1 this))
theorem sortT_sorted : ∀ l : List (List Int), (sortT l).Pairwise (fun a b => ¬ b < a)
  | [] => by simp [sortT]
  | x :: l => insT_sorted x _ (sortT_sorted l)
theorem merge_sortT {α : Type} (k : α → List Int) (l : List α) : (l.mergeSort (dataLe false fun v => tyI (k v))).map k = sortT (l.map k) := by
  have hle : ∀ a b, dataLe false (fun v => tyI (k v)) a b = !decide (k b < k a) := by
    intro a b
    rw [dataLe_eq]
    show (!dataLt (.tuple ((k b).map .int)) (.tuple ((k a).map .int))) = _
    rw [dataLt_tuple]
    exact congrArg _ (dataLt_ints (k b) (k a))
  refine psorted _ _ (((List.mergeSort_perm l _).map k).trans (sortT_perm (l.map k)).symm) ?_ (sortT_sorted _)
  rw [List.pairwise_map]
  have := List.pairwise_mergeSort (le := dataLe false fun v => tyI (k v)) (fun a b c h1 h2 => ?_) (fun a b => ?_) l
  · refine this.imp fun {a b} h => ?_
    rw [hle] at h
    simpa using h
  · rw [hle] at h1 h2 ⊢
    simp only [Bool.not_eq_true', decide_eq_false_iff_not, List.not_lt] at h1 h2 ⊢
    exact List.le_trans h1 h2
  · rw [hle, hle]
    simp only [Bool.or_eq_true, Bool.not_eq_true', decide_eq_false_iff_not, List.not_lt]
    exact List.le_total _ _
/-- sorted(xs), xs a list of tuples of whole numbers -/
def rSortedTI (K : PySem.W.Frag) : List V → Hp → VK → Prop := fun vs H Q => ∃ (a : Addr) (xs : List V) (k : V → List Int), vs = [V.ref a] ∧ SqL K H a xs ∧ (∀ x ∈ xs, ∃ t, x = V.ref t ∧ SqT K H t ((k x).map V.int)) ∧ ((∀ x ∈ xs, k x ≠ []) ∨ xs.length ≤ 1) ∧
  ∀ ys p, ys.Perm xs → ys.map k = sortT (xs.map k) → H p = none → Q (.ref p) (upd H p (.lst ys))
theorem cr_sortedTI {X : Cx} (hu : X.A.units + 3 < cLine) : CallR X (.builtin "sorted") (rSortedTI X.K) := by
  intro pins s σ H vs us Q I r h
  obtain ⟨a, xs, k, rfl, hs, hx, hk, q⟩ := h
  obtain ⟨its, rv, hl, hz⟩ := I.list hs
  obtain ⟨u, rfl, ru⟩ := vals1 r
  obtain rfl : u = Value.ref a := ru
  obtain ⟨e1, e2⟩ := refs_back rv fun x m => by
    obtain ⟨t, e, _⟩ := hx x m
    exact ⟨t, e⟩
  have hmem : ∀ v ∈ its, backV v ∈ xs := fun v hv => by rw [e1]; exact List.mem_map.mpr ⟨_, hv, rfl⟩
  refine sorted_tyI (k := fun u => k (backV u)) hl.isList (by rw [← rv.length]; exact hz) hu (fun v hv => ?_) ?_ fun h' d out ho kp hd hn => ?_
  · obtain ⟨t, rfl⟩ := e2 v hv
    obtain ⟨t', e, ht⟩ := hx _ (hmem _ hv)
    cases e
    have dp : Dp X.K H (V.ref t) (tyI (k (V.ref t))) := by
      refine .tup ht ?_
      have key : ∀ l : List Int, DpAll X.K H (l.map V.int) (l.map .int) := by
        intro l
        induction l with
        | nil => exact .nil
        | cons x l ih => exact .cons (.int x) ih
      exact key _
    exact Dp.reads I _ _ _ dp rfl
  · rcases hk with hk | hk
    · exact .inl fun v hv => hk _ (hmem v hv)
    · right; rw [e1] at hk; simpa using hk
  · have hp : out.Perm its := by rw [ho]; exact List.mergeSort_perm _ _
    have h3 : ∀ u ∈ out, ∃ a, u = Value.ref a := fun u hu => e2 u (hp.mem_iff.mp hu)
    obtain ⟨n, hn⟩ := hn
    have hb : (out.map backV).Perm xs := by rw [e1]; exact hp.map _
    refine ⟨.ref d, upd H d (.lst (out.map backV)), I.laid (t' := s.toks) kp hd ⟨?_, out, n, vals_back h3, hn⟩, rfl, q _ d hb ?_ (I.hok.fresh hd)⟩
    · rw [hb.length_eq]
      exact hz
    · rw [e1, List.map_map, List.map_map, ho]
      exact merge_sortT (fun u => k (backV u)) its
end Mp
/-! Built-ins, one by one. -/
namespace Mp
open PySem L2

/-- a call with one value, two values -/
def rC1 (T : Tab) (f : D → Option D) : List V → Hp → VK → Prop := fun xs H Q => ∃ x, xs = [x] ∧ rOp1 T f x H Q
def rC2 (T : Tab) (f : D → D → Option D) : List V → Hp → VK → Prop := fun xs H Q => ∃ x y, xs = [x, y] ∧ rOp2 T f x y H Q
section
variable {X : Cx} {T : Tab} {W : WX} {C : Cfg} {ea eb : Expr} {pos p : Pos} {id : String} {x : Str} {b : Bl} {a a2 : O}
theorem e_callB1 (hc : CallR X (.builtin id) (rC1 T fun d => blD b [d])) (hg : Gl X x) (hm : X.mg x = none) (hv : bootBuiltins x = some (.builtin id)) (ha : PE X ea (tO T W (dO C a))) (pl : plainE ea = true) (hn : x ≠ "__name__" := by decide) (hdb : (x == ("__debug__" : Str)) = false := by decide) :
    PE X (.Call (.Name x p) [ea] [] pos) (tE T W (dE C (.blt b (.cons a .nil)))) := by
  refine (pe_callB hc hg hm hv (pa_cons ha pa_nil (star_cons pl [] X.env)) hn hdb (star_cons pl [] X.env) rfl).weak fun σ H Q h => ?_
  exact (un_den (sem_op1 T _) (blt1 h)).mono fun v H1 z => ⟨v, rfl, z⟩
theorem e_callT1 {t : String} (hc : CallR X (.type t) (rC1 T fun d => blD b [d])) (hg : Gl X x) (hm : X.mg x = none) (hv : bootBuiltins x = some (.type t)) (ha : PE X ea (tO T W (dO C a))) (pl : plainE ea = true) (hn : x ≠ "__name__" := by decide) (hdb : (x == ("__debug__" : Str)) = false := by decide) :
    PE X (.Call (.Name x p) [ea] [] pos) (tE T W (dE C (.blt b (.cons a .nil)))) := by
  refine (pe_callTy hc hg hm hv (pa_cons ha pa_nil (star_cons pl [] X.env)) hn hdb (star_cons pl [] X.env) rfl).weak fun σ H Q h => ?_
  exact (un_den (sem_op1 T _) (blt1 h)).mono fun v H1 z => ⟨v, rfl, z⟩
theorem e_callB2 (hc : CallR X (.builtin id) (rC2 T fun d e => blD b [d, e])) (hg : Gl X x) (hm : X.mg x = none) (hv : bootBuiltins x = some (.builtin id)) (ha : PE X ea (tO T W (dO C a))) (hb : PE X eb (tO T W (dO C a2))) (pl : plainE ea = true) (pl2 : plainE eb = true) (hn : x ≠ "__name__" := by decide) (hdb : (x == ("__debug__" : Str)) = false := by decide) :
    PE X (.Call (.Name x p) [ea, eb] [] pos) (tE T W (dE C (.blt b (.cons a (.cons a2 .nil))))) := by
  refine (pe_callB hc hg hm hv (pa_cons ha (pa_cons hb pa_nil (star_cons pl2 [] X.env)) (star_cons pl [eb] X.env)) hn hdb (star_cons pl [eb] X.env) (star_any (by simp [pl2]) X.env pos)).weak fun σ H Q h => ?_
  exact (bi_den (sem_op2 T _) (blt2 h)).mono fun v H1 z => z.mono fun u H2 z => ⟨v, u, rfl, z⟩

theorem Rp.rd {G H : Hp} {o k : Bool} {ks ds : List D} {v : V} {F : List Addr} (r : Rp T G H (.dct o k ks ds) v F) (ex : Ext G H) : ∃ p kvs F', v = .ref p ∧ ks = kvs.map (fun q => keyD q.1) ∧ RpL T G H ds (kvs.map (·.2)) F' ∧ (kvs.map (·.1)).Nodup ∧ kvs.length ≤ sizeLine ∧ Rd H p (.dK kvs) := by
  obtain ⟨_, p, kvs, F', e, ek, r1, nd, hz, hp⟩ := r.dct ex
  exact ⟨p, kvs, F', e, ek, r1, nd, hz, .inl hp⟩
theorem cr_len (hK : X.K = T.K) : CallR X (.builtin "len") (rC1 T fun d => blD .len [d]) := by
  intro pins s σ H xs us Q I r ⟨x, e0, G, dx, d, Fx, ex, qx, e, n⟩
  subst e0
  cases dx with
  | lst o ys =>
    cases e
    obtain ⟨q, vs, F', rfl, hp, r1⟩ := qx.lst ex
    exact call_len pins s σ H _ us Q I r ⟨_, _, rfl, .inl ⟨vs, .inl (.inl hp), rfl⟩, by rw [r1.length]; exact n.int ex⟩
  | tup ys =>
    cases e
    obtain ⟨q, vs, rfl, hp, r1⟩ := qx.tup ex
    exact call_len pins s σ H _ us Q I r ⟨_, _, rfl, .inr ⟨vs, by rw [hK]; exact hp, rfl⟩, by rw [r1.length]; exact n.int ex⟩
  | scr ys =>
    cases e
    obtain ⟨⟨q, rfl, hp⟩, _⟩ := qx
    exact call_len pins s σ H _ us Q I r ⟨_, _, rfl, .inl ⟨_, by rw [hK]; exact ex.sqL hp, rfl⟩, by rw [List.length_map]; exact n.int ex⟩
  | dct o k ks vs =>
    cases e
    obtain ⟨q, kvs, F', rfl, eks, r1, nd, hz, hp⟩ := qx.rd ex
    rw [eks, List.length_map] at n
    rw [Vals.ref1 r]
    exact d_len I hp fun t s' I' => ⟨.int _, H, I', ⟨_, rfl⟩, n.int ex⟩
  | str y =>
    have e : (if y.length ≤ line then some (D.int y.length) else none) = some d := e
    split at e
    · rename_i hl
      cases e
      cases qx.str
      exact call_len pins s σ H _ us Q I r ⟨_, _, rfl, ⟨by rw [← line_eq]; exact hl, rfl⟩, n.int ex⟩
    · cases e
  | _ => cases e
theorem cr_abs : CallR X (.builtin "abs") (rC1 T fun d => blD .abs [d]) := by
  intro pins s σ H xs us Q I r ⟨x, e0, G, dx, d, Fx, ex, qx, e, n⟩
  subst e0
  cases dx with
  | int i =>
    cases e
    cases qx.int
    exact call_abs pins s σ H _ us Q I r ⟨_, rfl, n.int ex⟩
  | _ => cases e
theorem cr_int : CallR X (.type "int") (rC1 T fun d => blD .int [d]) := by
  intro pins s σ H xs us Q I r ⟨x, e0, G, dx, d, Fx, ex, qx, e, n⟩
  subst e0
  cases dx with
  | int i =>
    cases e
    cases qx.int
    exact call_int1 pins s σ H _ us Q I r (.inl ⟨_, rfl, n.int ex⟩)
  | bl i =>
    cases e
    cases qx.bl
    exact call_int1 pins s σ H _ us Q I r (.inr ⟨_, rfl, n.int ex⟩)
  | _ => cases e
theorem cr_bool : CallR X (.type "bool") (rC1 T fun d => blD .bool [d]) := by
  intro pins s σ H xs us Q I r ⟨x, e0, G, dx, d, Fx, ex, qx, e, n⟩
  subst e0
  cases dx with
  | int i =>
    cases e
    cases qx.int
    exact call_bool1 pins s σ H _ us Q I r (.inl ⟨_, rfl, n.bl ex⟩)
  | bl i =>
    cases e
    cases qx.bl
    exact call_bool1 pins s σ H _ us Q I r (.inr ⟨_, rfl, n.bl ex⟩)
  | _ => cases e
theorem cr_min2 (hc : X.calm = true) : CallR X (.builtin "min") (rC2 T fun d e => blD .min2 [d, e]) := by
  intro pins s σ H xs us Q I r ⟨x, y, e0, G, dx, dy, d, Fx, Fy, ex, qx, qy, e, n⟩
  subst e0
  cases dx with
  | int i => cases dy with
    | int j =>
      cases e
      cases qx.int
      cases qy.int
      exact call_min2 hc pins s σ H _ us Q I r ⟨_, _, rfl, n.int ex⟩
    | _ => cases e
  | _ => cases e
theorem cr_max2 (hc : X.calm = true) : CallR X (.builtin "max") (rC2 T fun d e => blD .max2 [d, e]) := by
  intro pins s σ H xs us Q I r ⟨x, y, e0, G, dx, dy, d, Fx, Fy, ex, qx, qy, e, n⟩
  subst e0
  cases dx with
  | int i => cases dy with
    | int j =>
      cases e
      cases qx.int
      cases qy.int
      exact call_max2 hc pins s σ H _ us Q I r ⟨_, _, rfl, n.int ex⟩
    | _ => cases e
  | _ => cases e
/-! ### sequences of ints -/
theorem minI_spec : ∀ (xs : List Int) (m : Int), (minI m xs = m ∨ minI m xs ∈ xs) ∧ minI m xs ≤ m ∧ ∀ y ∈ xs, minI m xs ≤ y
  | [], m => ⟨.inl rfl, Int.le_refl _, (fun _ z => nomatch z)⟩
  | x :: xs, m => by
    obtain ⟨h1, h2, h3⟩ := minI_spec xs (if x < m then x else m)
    unfold minI
    refine ⟨?_, ?_, fun y hy => ?_⟩
    · rcases h1 with h | h
      · rw [h]
        split
        · exact .inr List.mem_cons_self
        · exact .inl rfl
      · exact .inr (List.mem_cons_of_mem _ h)
    · exact Int.le_trans h2 (by split <;> omega)
    · rcases List.mem_cons.mp hy with z | z
      · subst z
        exact Int.le_trans h2 (by split <;> omega)
      · exact h3 y z
theorem maxI_spec : ∀ (xs : List Int) (m : Int), (maxI m xs = m ∨ maxI m xs ∈ xs) ∧ m ≤ maxI m xs ∧ ∀ y ∈ xs, y ≤ maxI m xs
  | [], m => ⟨.inl rfl, Int.le_refl _, (fun _ z => nomatch z)⟩
  | x :: xs, m => by
    obtain ⟨h1, h2, h3⟩ := maxI_spec xs (if x > m then x else m)
    unfold maxI
    refine ⟨?_, ?_, fun y hy => ?_⟩
    · rcases h1 with h | h
      · rw [h]
        split
        · exact .inr List.mem_cons_self
        · exact .inl rfl
      · exact .inr (List.mem_cons_of_mem _ h)
    · exact Int.le_trans (by split <;> omega) h2
    · rcases List.mem_cons.mp hy with z | z
      · subst z
        exact Int.le_trans (by split <;> omega) h2
      · exact h3 y z
theorem minI_uniq {x m : Int} {xs : List Int} (h1 : m ∈ x :: xs) (h2 : ∀ y ∈ x :: xs, m ≤ y) : m = minI x xs := by
  obtain ⟨a, b, c⟩ := minI_spec xs x
  have l1 : minI x xs ≤ m := by
    rcases List.mem_cons.mp h1 with z | z
    · rw [z]; exact b
    · exact c m z
  have l2 : m ≤ minI x xs := by
    rcases a with z | z
    · rw [z]; exact h2 x List.mem_cons_self
    · exact h2 _ (List.mem_cons_of_mem _ z)
  omega
theorem maxI_uniq {x m : Int} {xs : List Int} (h1 : m ∈ x :: xs) (h2 : ∀ y ∈ x :: xs, y ≤ m) : m = maxI x xs := by
  obtain ⟨a, b, c⟩ := maxI_spec xs x
  have l1 : m ≤ maxI x xs := by
    rcases List.mem_cons.mp h1 with z | z
    · rw [z]; exact b
    · exact c m z
  have l2 : maxI x xs ≤ m := by
    rcases a with z | z
    · rw [z]; exact h2 x List.mem_cons_self
    · exact h2 _ (List.mem_cons_of_mem _ z)
  omega
/-- a sequence of ints stands so -/
theorem Rp.ints {G H : Hp} {d : D} {v : V} {F : List Addr} {xs : List D} {ns : List Int} (r : Rp T G H d v F) (ex : Ext G H) (e : seqOf d = some xs) (t : toInts xs = some ns) : ∃ q, v = .ref q ∧ (SqL T.K H q (ns.map V.int) ∨ SqT T.K H q (ns.map V.int)) := by
  obtain ⟨q, vs, F', e1, h, r1⟩ := r.seq ex e
  have e2 := RpL.toI r1 t
  subst e2
  exact ⟨q, e1, h⟩
theorem tup_ints {pins : List (Addr × Obj)} {σ : St} {H : Hp} {s : Shared} (I : L2.Inv X pins σ H s) {q : Addr} {ns : List Int} (h : SqT X.K H q (ns.map V.int)) : ∃ its : List Value, s.heap.IsTuple q its.toArray ∧ its.length = ns.length ∧ ∀ (i : Nat) (v : Value), its.toArray[i]? = some v → ∃ t, v = .int (ns.getD i 0) t := by
  obtain ⟨its, rv, hl, _⟩ := I.tuple h
  refine ⟨its, hl, by rw [← rv.length, List.length_map], fun i v hv => ?_⟩
  have hi := rv.ints
  have hv' : its[i]? = some v := by simpa using hv
  have hlt : i < ns.length := by
    have := (List.getElem?_eq_some_iff.mp hv').1
    rw [← rv.length, List.length_map] at this
    exact this
  obtain ⟨t, ht⟩ := hi.get i _ (List.getElem?_eq_getElem hlt)
  rw [hv'] at ht
  cases ht
  exact ⟨t, by rw [List.getD_eq_getElem?_getD, List.getElem?_eq_getElem hlt]; rfl⟩
theorem getD_memI {ns : List Int} {i : Nat} (h : i < ns.length) : ns.getD i 0 ∈ ns := by
  rw [List.getD_eq_getElem?_getD, List.getElem?_eq_getElem h]
  exact List.getElem_mem h
theorem mem_getDI {ns : List Int} {j : Int} (h : j ∈ ns) : ∃ i, i < ns.length ∧ ns.getD i 0 = j := by
  obtain ⟨i, hi, e⟩ := List.mem_iff_getElem.mp h
  exact ⟨i, hi, by rw [List.getD_eq_getElem?_getD, List.getElem?_eq_getElem hi, ← e]; rfl⟩
theorem tup_lt {s : Shared} {q : Addr} {its : Array Value} (h : s.heap.IsTuple q its) : q < s.heap.objs.size := let ⟨_, ho, _⟩ := h; Heap.lt_size ho
theorem min_tup (hc : X.calm = true) {pins : List (Addr × Obj)} {σ : St} {H : Hp} {s : Shared} {Q : VK} (I : L2.Inv X pins σ H s) {q : Addr} {ns : List Int} (h : SqT X.K H q (ns.map V.int)) (hne : ns ≠ []) (k : ∀ m, m ∈ ns → (∀ j ∈ ns, m ≤ j) → Q (.int m) H) :
    wpAny (model X.prog X.w) X.A (call (.builtin "min") [.ref q]) (EP X pins σ Q) X.xe s := by
  obtain ⟨its, hl, hlen, hval⟩ := tup_ints I h
  have hlt := tup_lt hl
  have hn0 : 0 < its.toArray.size := by rw [List.size_toArray, hlen]; exact List.length_pos_iff.mpr hne
  refine call_min_walk (wpAny_pyIter_tuple hl ?_)
  refine ⟨_, _, _, _, _, _, _, rfl, Walks.tuple (A := X.A.in1) (I.ok.hd hc) s.heap.objs.size q (Nat.ne_of_lt hlt) its.toArray,
    ⟨⟨_, Heap.get?_push_size _ rfl, rfl, rfl⟩, hl.push _⟩, fun b hb => ?_, hn0, CmpOf.ints_lt (fun i => ns.getD i 0) hval, fun v h' tk hP hk => ?_⟩
  · show b < (s.heap.push _).objs.size
    rw [Heap.size_push]
    rcases List.mem_cons.mp hb with e | hb
    · rw [e]; exact Nat.lt_succ_self _
    · rw [List.mem_singleton.mp hb]; exact Nat.lt_succ_of_lt hlt
  · obtain ⟨t, rfl⟩ := hval _ v hP
    obtain ⟨b1, b2⟩ := argBest_lt (fun i => ns.getD i 0) (its.toArray.size - 1)
    have hsz : its.toArray.size = ns.length := by rw [List.size_toArray, hlen]
    refine ⟨.int _, H, I.kept (t' := tk) fun b u e => hk b u (fun hmem => ?_) (Heap.get?_push_of_some _ e), ⟨t, rfl⟩, k _ (getD_memI (by omega)) fun j hj => ?_⟩
    · have e1 : b = s.heap.objs.size := List.mem_singleton.mp hmem
      have e2 := Heap.lt_size e
      rw [e1] at e2
      exact absurd e2 (Nat.lt_irrefl _)
    · obtain ⟨i, hi, e⟩ := mem_getDI hj
      rw [← e]
      exact b2 i (by omega)
theorem max_tup (hc : X.calm = true) {pins : List (Addr × Obj)} {σ : St} {H : Hp} {s : Shared} {Q : VK} (I : L2.Inv X pins σ H s) {q : Addr} {ns : List Int} (h : SqT X.K H q (ns.map V.int)) (hne : ns ≠ []) (k : ∀ m, m ∈ ns → (∀ j ∈ ns, j ≤ m) → Q (.int m) H) :
    wpAny (model X.prog X.w) X.A (call (.builtin "max") [.ref q]) (EP X pins σ Q) X.xe s := by
  obtain ⟨its, hl, hlen, hval⟩ := tup_ints I h
  have hlt := tup_lt hl
  have hn0 : 0 < its.toArray.size := by rw [List.size_toArray, hlen]; exact List.length_pos_iff.mpr hne
  refine call_max_walk (wpAny_pyIter_tuple hl ?_)
  refine ⟨_, _, _, _, _, _, _, rfl, Walks.tuple (A := X.A.in1) (I.ok.hd hc) s.heap.objs.size q (Nat.ne_of_lt hlt) its.toArray,
    ⟨⟨_, Heap.get?_push_size _ rfl, rfl, rfl⟩, hl.push _⟩, fun b hb => ?_, hn0, CmpOf.ints_gt (fun i => ns.getD i 0) hval, fun v h' tk hP hk => ?_⟩
  · show b < (s.heap.push _).objs.size
    rw [Heap.size_push]
    rcases List.mem_cons.mp hb with e | hb
    · rw [e]; exact Nat.lt_succ_self _
    · rw [List.mem_singleton.mp hb]; exact Nat.lt_succ_of_lt hlt
  · obtain ⟨t, rfl⟩ := hval _ v hP
    obtain ⟨b1, b2⟩ := argBest_gt (fun i => ns.getD i 0) (its.toArray.size - 1)
    have hsz : its.toArray.size = ns.length := by rw [List.size_toArray, hlen]
    refine ⟨.int _, H, I.kept (t' := tk) fun b u e => hk b u (fun hmem => ?_) (Heap.get?_push_of_some _ e), ⟨t, rfl⟩, k _ (getD_memI (by omega)) fun j hj => ?_⟩
    · have e1 : b = s.heap.objs.size := List.mem_singleton.mp hmem
      have e2 := Heap.lt_size e
      rw [e1] at e2
      exact absurd e2 (Nat.lt_irrefl _)
    · obtain ⟨i, hi, e⟩ := mem_getDI hj
      rw [← e]
      exact b2 i (by omega)
theorem bl_seqI {b : Bl} {g : List Int → Option D} {dx d : D} (hb : blD b [dx] = match seqOf dx with
    | some xs => match toInts xs with
      | some a => g a
      | none => none
    | none => none) (e : blD b [dx] = some d) : ∃ xs ns, seqOf dx = some xs ∧ toInts xs = some ns ∧ g ns = some d := by
  rw [hb] at e
  split at e
  · rename_i xs e1
    split at e
    · rename_i ns e2
      exact ⟨xs, ns, e1, e2, e⟩
    · cases e
  · cases e
theorem cr_min1 (hK : X.K = T.K) (hc : X.calm = true) : CallR X (.builtin "min") (rC1 T fun d => blD .min1 [d]) := by
  intro pins s σ H xs us Q I r ⟨x, e0, G, dx, d, Fx, ex, qx, e, n⟩
  subst e0
  obtain ⟨ys, ns, e1, e2, e3⟩ := bl_seqI (b := .min1) (g := fun a => match a with | x :: r => some (.int (minI x r)) | [] => none) (dx := dx) (by
    show (match seqOf dx with | some xs => (match toInts xs with | some (x :: r) => some (D.int (minI x r)) | _ => none) | none => none) = _
    cases seqOf dx with
    | none => rfl
    | some ys => simp only; cases toInts ys with
      | none => rfl
      | some a => cases a <;> rfl) e
  obtain ⟨q, rfl, h⟩ := qx.ints ex e1 e2
  rw [← hK] at h
  cases ns with
  | nil => cases e3
  | cons m ms =>
    cases e3
    have fin : ∀ w, w ∈ m :: ms → (∀ y ∈ m :: ms, w ≤ y) → Q (.int w) H := fun w h1 h2 => by rw [minI_uniq h1 h2]; exact n.int ex
    rcases h with h | h
    · exact cr_min hc pins s σ H _ us Q I r ⟨q, m :: ms, rfl, h, Nat.succ_pos _, fin⟩
    · rw [Vals.ref1 r]; exact min_tup hc I h (by simp) fin
theorem cr_max1 (hK : X.K = T.K) (hc : X.calm = true) : CallR X (.builtin "max") (rC1 T fun d => blD .max1 [d]) := by
  intro pins s σ H xs us Q I r ⟨x, e0, G, dx, d, Fx, ex, qx, e, n⟩
  subst e0
  obtain ⟨ys, ns, e1, e2, e3⟩ := bl_seqI (b := .max1) (g := fun a => match a with | x :: r => some (.int (maxI x r)) | [] => none) (dx := dx) (by
    show (match seqOf dx with | some xs => (match toInts xs with | some (x :: r) => some (D.int (maxI x r)) | _ => none) | none => none) = _
    cases seqOf dx with
    | none => rfl
    | some ys => simp only; cases toInts ys with
      | none => rfl
      | some a => cases a <;> rfl) e
  obtain ⟨q, rfl, h⟩ := qx.ints ex e1 e2
  rw [← hK] at h
  cases ns with
  | nil => cases e3
  | cons m ms =>
    cases e3
    have fin : ∀ w, w ∈ m :: ms → (∀ y ∈ m :: ms, y ≤ w) → Q (.int w) H := fun w h1 h2 => by rw [maxI_uniq h1 h2]; exact n.int ex
    rcases h with h | h
    · exact cr_max hc pins s σ H _ us Q I r ⟨q, m :: ms, rfl, h, Nat.succ_pos _, fin⟩
    · rw [Vals.ref1 r]; exact max_tup hc I h (by simp) fin
theorem cr_sumL (hK : X.K = T.K) (hc : X.calm = true) : CallR X (.builtin "sum") (rC1 T fun d => blD .sum [d]) := by
  intro pins s σ H xs us Q I r ⟨x, e0, G, dx, d, Fx, ex, qx, e, n⟩
  subst e0
  cases dx with
  | lst o ys =>
    have e : (match toInts ys with | some a => some (D.int a.sum) | none => none) = some d := e
    split at e
    · rename_i ns et
      cases e
      obtain ⟨q, vs, F', rfl, hp, r1⟩ := qx.lst ex
      have e2 := RpL.toI r1 et
      subst e2
      exact cr_sum hc pins s σ H _ us Q I r ⟨q, ns, rfl, .inl (.inl hp), n.int ex⟩
    · cases e
  | _ => cases e
theorem RpL.bls {G H : Hp} : ∀ {xs : List D} {vs : List V} {F : List Addr} {bs : List Bool}, RpL T G H xs vs F → bools xs = some bs → vs = bs.map V.bl
  | [], vs, F, bs, h, e => by
    obtain ⟨rfl, _⟩ := h
    cases e
    rfl
  | x :: xs, vs, F, bs, h, e => by
    obtain ⟨v, ws, F1, F2, rfl, _, r1, r2⟩ := h
    cases x with
    | bl b =>
      have e : (match bools xs with | some r => some (b :: r) | none => none) = some bs := e
      split at e
      · rename_i r er
        cases e
        rw [r1.bl, RpL.bls r2 er]
        rfl
      · cases e
    | _ => cases e
theorem cr_anyL (hc : X.calm = true) : CallR X (.builtin "any") (rC1 T fun d => blD .any [d]) := by
  intro pins s σ H xs us Q I r ⟨x, e0, G, dx, d, Fx, ex, qx, e, n⟩
  subst e0
  cases dx with
  | lst o ys =>
    have e : (match bools ys with | some a => some (D.bl (a.any id)) | none => none) = some d := e
    split at e
    · rename_i ns et
      cases e
      obtain ⟨q, vs, F', rfl, hp, r1⟩ := qx.lst ex
      have e2 := RpL.bls r1 et
      subst e2
      exact cr_any hc pins s σ H _ us Q I r ⟨q, ns, rfl, .inl (.inl hp), n.bl ex⟩
    · cases e
  | _ => cases e
theorem cr_allL (hc : X.calm = true) : CallR X (.builtin "all") (rC1 T fun d => blD .all [d]) := by
  intro pins s σ H xs us Q I r ⟨x, e0, G, dx, d, Fx, ex, qx, e, n⟩
  subst e0
  cases dx with
  | lst o ys =>
    have e : (match bools ys with | some a => some (D.bl (a.all id)) | none => none) = some d := e
    split at e
    · rename_i ns et
      cases e
      obtain ⟨q, vs, F', rfl, hp, r1⟩ := qx.lst ex
      have e2 := RpL.bls r1 et
      subst e2
      exact cr_all hc pins s σ H _ us Q I r ⟨q, ns, rfl, .inl (.inl hp), n.bl ex⟩
    · cases e
  | _ => cases e
/-! ### list, tuple, sorted -/
theorem RpL.keys {G H : Hp} : ∀ (kvs : List (Key × V)), RpL T G H (kvs.map fun q => keyD q.1) (kvs.map fun q => kV q.1) []
  | [] => ⟨rfl, rfl⟩
  | q :: r => by
    obtain ⟨k, v⟩ := q
    refine ⟨_, _, [], [], rfl, rfl, ?_, RpL.keys r⟩
    cases k with
    | inl i => exact ⟨rfl, rfl⟩
    | inr s => exact ⟨rfl, rfl⟩
theorem cr_listL (hK : X.K = T.K) (hc : X.calm = true) : CallR X (.type "list") (rC1 T fun d => blD .list [d]) := by
  intro pins s σ H xs us Q I r ⟨x, e0, G, dx, d, Fx, ex, qx, e, n⟩
  subst e0
  have key : ∀ ys, seqOf dx = some ys → (if shL ys then some (D.lst true ys) else none) = some d → wpAny (model X.prog X.w) X.A (call (.type "list") us) (EP X pins σ Q) X.xe s := fun ys e1 e2 => by
    split at e2
    · rename_i hs
      cases e2
      obtain ⟨q, vs, F', rfl, hq, r1⟩ := qx.seq ex e1
      rw [← hK] at hq
      exact call_list_of pins s σ H _ us Q I r ⟨q, vs, rfl, hq, fun l hl => n.lst ex (RpL.sh hs r1 (.refl _)) hl⟩
    · cases e2
  cases dx with
  | lst o ys => exact key ys rfl e
  | tup ys => exact key ys rfl e
  | dct o k ks vs =>
    cases e
    obtain ⟨q, kvs, F', rfl, eks, r1, nd, hz, hp⟩ := qx.rd ex
    subst eks
    exact call_listD hc pins s σ H _ us Q I r ⟨q, kvs, rfl, hp, fun l hl => n.lst ex (RpL.keys kvs) hl⟩
  | _ => cases e
theorem cr_tupleL (hK : X.K = T.K) (hc : X.calm = true) : CallR X (.type "tuple") (rC1 T fun d => blD .tuple [d]) := by
  intro pins s σ H xs us Q I r ⟨x, e0, G, dx, d, Fx, ex, qx, e, n⟩
  subst e0
  cases dx with
  | lst o ys =>
    have e : (if shL ys then some (D.tup ys) else none) = some d := e
    split at e
    · rename_i hs
      cases e
      obtain ⟨q, vs, F', rfl, hp, r1⟩ := qx.lst ex
      exact call_tuple_of pins s σ H _ us Q I r ⟨q, vs, rfl, .inl ⟨.inl (.inl hp), fun l hl => n.tup ex (RpL.sh hs r1 (.refl _)) hl⟩⟩
    · cases e
  | tup ys =>
    have e : (if shL ys then some (D.tup ys) else none) = some d := e
    split at e
    · rename_i hs
      cases e
      obtain ⟨q, vs, rfl, hp, r1⟩ := id (qx.tup ex)
      exact call_tuple_of pins s σ H _ us Q I r ⟨q, vs, rfl, .inr ⟨by rw [hK]; exact hp, n.val ex (Rp.sh (d := .tup _) (by simpa only [sh] using hs) qx (.refl _))⟩⟩
    · cases e
  | _ => cases e
theorem insI_comm (x y : Int) : ∀ l : List Int, insI x (insI y l) = insI y (insI x l)
  | [] => by
    simp only [insI]
    by_cases h : x ≤ y
    · by_cases h2 : y ≤ x
      · have : x = y := by omega
        subst this
        rfl
      · rw [if_pos h, if_neg h2]
    · have h2 : y ≤ x := by omega
      rw [if_neg h, if_pos h2]
  | z :: l => by
    simp only [insI]
    by_cases hy : y ≤ z <;> by_cases hx : x ≤ z <;> simp only [if_pos, if_neg, hx, hy, insI, not_false_eq_true]
    · by_cases h : x ≤ y
      · by_cases h2 : y ≤ x
        · have : x = y := by omega
          subst this
          rfl
        · simp only [if_pos h, if_neg h2, insI, if_pos hy]
      · have h2 : y ≤ x := by omega
        simp only [if_neg h, if_pos h2, insI, if_pos hx]
    · have h : ¬ x ≤ y := by omega
      simp only [if_neg h, insI, if_neg hx]
    · have h : ¬ y ≤ x := by omega
      simp only [if_neg h, insI, if_neg hy]
    · rw [insI_comm x y l]
theorem sortI_perm {xs ys : List Int} (h : xs.Perm ys) : sortI xs = sortI ys := by
  induction h with
  | nil => rfl
  | cons x _ ih => simp only [sortI, ih]
  | swap x y l => exact insI_comm _ _ _
  | trans _ _ a b => exact a.trans b
theorem insI_le {x : Int} : ∀ {xs : List Int}, (∀ y ∈ xs, x ≤ y) → insI x xs = x :: xs
  | [], _ => rfl
  | y :: ys, h => by simp only [insI, if_pos (h y List.mem_cons_self)]
theorem sortI_sorted : ∀ {xs : List Int}, xs.Pairwise (· ≤ ·) → sortI xs = xs
  | [], _ => rfl
  | x :: xs, h => by
    rw [List.pairwise_cons] at h
    simp only [sortI, sortI_sorted h.2, insI_le h.1]
theorem sort_uniq {xs ys : List Int} (h : ys.Perm xs) (s : ys.Pairwise (· ≤ ·)) : ys = sortI xs := by rw [← sortI_perm h, sortI_sorted s]
theorem New.ints {G H : Hp} {Q : VK} {ns : List Int} (ex : Ext G H) (n : New T G H (.lst true (ns.map D.int)) Q) {p : Addr} (h : H p = none) : Q (.ref p) (upd H p (.lst (ns.map V.int))) := n.lst ex (RpL.ofInts ns) h
theorem keys_ints : ∀ {kvs : List (Key × V)} {ns : List Int}, toInts (kvs.map fun q => keyD q.1) = some ns → kvs.map (·.1) = ns.map Sum.inl
  | [], ns, e => by cases e; rfl
  | (k, v) :: r, ns, e => by
    cases k with
    | inl i =>
      have e : (match toInts (r.map fun q => keyD q.1) with | some r => some (i :: r) | none => none) = some ns := e
      split at e
      · rename_i m em
        cases e
        simp only [List.map_cons, keys_ints em]
      · cases e
    | inr s => cases e
theorem toIm : ∀ ns : List Int, toInts (ns.map D.int) = some ns
  | [] => rfl
  | x :: ns => by simp only [List.map_cons, toInts, toIm ns]
theorem shT (ns : List Int) : sh (.tup (ns.map D.int)) = true := by
  unfold sh
  induction ns with
  | nil => rfl
  | cons x ns ih => simp only [List.map_cons, shL, ih]; rfl
theorem RpL.tups {G H : Hp} : ∀ {xs : List D} {a : List (List Int)} {vs : List V} {F : List Addr}, tupsI xs = some a → RpL T G H xs vs F → F = [] ∧ vs.length = a.length ∧ ∀ (i : Nat) (v : V), vs[i]? = some v → ∃ ns : List Int, a[i]? = some ns ∧ Rp T G H (encT ns) v []
  | [], a, vs, F, e, r => by
    obtain ⟨rfl, rfl⟩ := r
    cases e
    exact ⟨rfl, rfl, fun i v h => by simp at h⟩
  | x :: xs, a, vs, F, e, r => by
    obtain ⟨v, ws, F1, F2, rfl, rfl, r1, r2⟩ := r
    cases x with
    | tup t =>
      simp only [tupsI] at e
      split at e
      · rename_i ns a' e1 e2
        cases e
        obtain ⟨rfl, hl, h⟩ := RpL.tups e2 r2
        have et : t = ns.map D.int := by
          clear r1
          have key : ∀ (t : List D) (ns : List Int), toInts t = some ns → t = ns.map D.int := by
            intro t
            induction t with
            | nil => intro ns h; cases h; rfl
            | cons y t ih =>
              intro ns h
              cases y with
              | int i =>
                simp only [toInts] at h
                split at h
                · rename_i r hr; cases h; rw [ih r hr]; rfl
                · cases h
              | _ => simp [toInts] at h
          exact key t ns e1
        subst et
        have hF : F1 = [] := Rp.sh_nil _ _ _ (shT ns) r1
        subst hF
        refine ⟨rfl, by simp [hl], fun i u hu => ?_⟩
        cases i with
        | zero => simp at hu; subst hu; exact ⟨ns, rfl, r1⟩
        | succ i => simp at hu; exact h i u hu
      · cases e
    | _ => simp [tupsI] at e
theorem RpL.ofMap {G H : Hp} (k : V → List Int) : ∀ (ys : List V), (∀ y ∈ ys, Rp T G H (encT (k y)) y []) → RpL T G H ((ys.map k).map encT) ys []
  | [], _ => ⟨rfl, rfl⟩
  | y :: ys, h => ⟨y, ys, [], [], rfl, rfl, h y (by simp), RpL.ofMap k ys fun z hz => h z (by simp [hz])⟩
theorem cr_sortedL (hK : X.K = T.K) (hu : X.A.units + 3 < cLine) (hc : X.calm = true) : CallR X (.builtin "sorted") (rC1 T fun d => blD .sorted [d]) := by
  intro pins s σ H xs us Q I r ⟨x, e0, G, dx, d, Fx, ex, qx, e, n⟩
  subst e0
  cases dx with
  | lst o ys =>
    have e : (match toInts ys with | some a => some (D.lst true ((sortI a).map D.int)) | none => match tupsI ys with | some a => if a.all (fun t => !t.isEmpty) || decide (a.length ≤ 1) then some (.lst true ((sortT a).map encT)) else none | none => none) = some d := e
    split at e
    · rename_i ns et
      cases e
      obtain ⟨q, vs, F', rfl, hp, r1⟩ := qx.lst ex
      have e2 := RpL.toI r1 et
      subst e2
      refine cr_sortedI pins s σ H _ us Q I r ⟨q, ns, rfl, .inl (.inl hp), fun ns' p h1 h2 h3 => ?_⟩
      rw [sort_uniq h1 h2]
      exact n.ints ex h3
    · split at e
      · rename_i a et
        split at e
        · rename_i hb
          cases e
          obtain ⟨q, vs, F', rfl, hp, r1⟩ := qx.lst ex
          obtain ⟨rfl, hl, hv⟩ := RpL.tups et r1
          have huniq : ∀ (p : Addr) (n m : List Int), SqT T.K H p (n.map V.int) → SqT T.K H p (m.map V.int) → n = m := fun p n m h1 h2 => by
            rw [← hK] at h1 h2
            have := I.tuple_inj h1 h2
            exact (List.map_inj_right (fun x y z => by cases z; rfl)).1 this
          let k : V → List Int := fun v => open Classical in if h : ∃ (ns : List Int) (t : Addr), v = V.ref t ∧ SqT T.K H t (List.map V.int ns) then h.choose else []
          have hk : ∀ t ns, SqT T.K H t (List.map V.int ns) → k (V.ref t) = ns := by
            intro t ns h
            have hex : ∃ (ns' : List Int) (t' : Addr), V.ref t = V.ref t' ∧ SqT T.K H t' (List.map V.int ns') := ⟨ns, t, rfl, h⟩
            show (open Classical in if h : ∃ (ns' : List Int) (t' : Addr), V.ref t = V.ref t' ∧ SqT T.K H t' (List.map V.int ns') then h.choose else []) = ns
            rw [dif_pos hex]
            obtain ⟨t', e1, e2⟩ := hex.choose_spec
            injection e1 with e1
            rw [← e1] at e2
            exact huniq t _ _ e2 h
          have hat : ∀ (i : Nat) (v : V), vs[i]? = some v → ∃ (ns : List Int) (t : Addr), a[i]? = some ns ∧ v = V.ref t ∧ SqT T.K H t (ns.map V.int) ∧ Rp T G H (encT ns) v [] := by
            intro i v hi
            obtain ⟨ns, h1, h2⟩ := hv i v hi
            obtain ⟨t, ws, rfl, h3, h4⟩ := h2.tup ex
            have := RpL.toI h4 (toIm ns)
            subst this
            exact ⟨ns, t, h1, rfl, h3, h2⟩
          have hkr : ∀ v ∈ vs, ∃ t, v = V.ref t ∧ SqT T.K H t ((k v).map V.int) ∧ Rp T G H (encT (k v)) v [] := by
            intro v hm
            obtain ⟨i, hi⟩ := List.getElem?_of_mem hm
            obtain ⟨ns, t, _, rfl, h3, h4⟩ := hat i v hi
            rw [hk t ns h3]
            exact ⟨t, rfl, h3, h4⟩
          have hmap : vs.map k = a := by
            apply List.ext_getElem?
            intro i
            cases hi : vs[i]? with
            | none =>
              have : a[i]? = none := by
                rw [List.getElem?_eq_none_iff] at hi ⊢
                omega
              simp [hi, this]
            | some v =>
              obtain ⟨ns, t, h1, rfl, h3, _⟩ := hat i v hi
              simp [hi, h1, hk t ns h3]
          refine cr_sortedTI hu pins s σ H _ us Q I r ⟨q, vs, k, rfl, .inl (.inl hp), fun x hx => ?_, ?_, fun ys p h1 h2 h3 => ?_⟩
          · obtain ⟨t, e, h, _⟩ := hkr x hx
            exact ⟨t, e, by rw [hK]; exact h⟩
          · rw [Bool.or_eq_true] at hb
            rcases hb with hb | hb
            · left
              intro x hx
              have : k x ∈ a := by rw [← hmap]; exact List.mem_map_of_mem hx
              have := List.all_eq_true.1 hb _ this
              intro z
              rw [z] at this
              simp at this
            · right
              rw [hl]
              exact of_decide_eq_true hb
          · rw [hmap] at h2
            rw [← h2] at n
            exact n.lst ex (RpL.ofMap k ys fun y hy => by
              obtain ⟨_, _, _, h⟩ := hkr y (h1.mem_iff.1 hy)
              exact h) h3
        · cases e
      · cases e
  | dct o k ks vs =>
    have e : (match toInts ks with | some a => (if decide (a.length < 64) then some (D.lst true ((sortI a).map D.int)) else none) | none => none) = some d := e
    split at e
    · rename_i ns et
      split at e
      · rename_i h64
        cases e
        obtain ⟨q, kvs, F', rfl, eks, r1, nd, hz, hp⟩ := qx.rd ex
        subst eks
        refine call_sortedDI hc pins s σ H _ us Q I r ⟨q, kvs, ns, rfl, hp, keys_ints et, of_decide_eq_true h64, fun ns' p h1 h2 h3 => ?_⟩
        rw [sort_uniq h1 h2]
        exact n.ints ex h3
      · cases e
    · cases e
  | _ => cases e
/-! ### isinstance -/
def tyNames : List String := ["NoneType", "bool", "int", "str", "list", "tuple", "dict"]
def clNames : List String := ["bool", "int", "str", "list", "tuple", "dict"]
def subB (t u : String) : Bool := (t == u) || (t == "bool" && u == "int")
theorem kit_b (K : PySem.W.Frag) : ∀ t ∈ tyNames, ∀ u ∈ clNames, PySem.W.kitOne K (.type t) (.type u) = some (subB t u) := by
  intro t ht u hu
  simp only [tyNames, clNames, List.mem_cons, List.not_mem_nil, or_false] at ht hu
  rcases ht with rfl | rfl | rfl | rfl | rfl | rfl | rfl <;> rcases hu with rfl | rfl | rfl | rfl | rfl | rfl <;> first | rfl | kernel_rfl
def Ty.nm : Ty → String
  | .int => "int" | .bool => "bool" | .str => "str" | .list => "list" | .tuple => "tuple" | .dict => "dict" | .cls _ => ""
theorem tyX_all (hK : X.K = T.K) {G H : Hp} {d : D} {v : V} {F : List Addr} (ex : Ext G H) (r : Rp T G H d v F) {t0 : Ty} {b0 : Bool} (e0 : isTy d t0 = some b0) : ∃ n, TyX X.K H v (.type n) ∧ ∀ {t : Ty} {b : Bool}, isTy d t = some b → PySem.W.kitOne X.K (.type n) (.type t.nm) = some b := by
  have ht : ∀ {t : Ty} {b : Bool}, isTy d t = some b → t.nm ∈ clNames := by
    intro t b e
    cases t <;> first | cases e | exact (by decide)
  have key : ∀ u : String, u ∈ tyNames → (∀ {t : Ty} {b : Bool}, isTy d t = some b → subB u t.nm = b) → TyX X.K H v (.type u) → ∃ n, TyX X.K H v (.type n) ∧ ∀ {t : Ty} {b : Bool}, isTy d t = some b → PySem.W.kitOne X.K (.type n) (.type t.nm) = some b :=
    fun u hu eb ty => ⟨u, ty, fun {t b} e => by rw [kit_b X.K u hu _ (ht e), eb e]⟩
  cases d with
  | non =>
    refine key "NoneType" (by decide) ?_ (by rw [r.non]; exact .base .non)
    intro t b e
    cases t <;> first | cases e; rfl | cases e
  | bl k =>
    refine key "bool" (by decide) ?_ (by rw [r.bl]; exact .base (.bl _))
    intro t b e
    cases t <;> first | cases e; rfl | cases e
  | int i =>
    refine key "int" (by decide) ?_ (by rw [r.int]; exact .base (.int _))
    intro t b e
    cases t <;> first | cases e; rfl | cases e
  | str i =>
    refine key "str" (by decide) ?_ (by rw [r.str]; exact .base (.str _))
    intro t b e
    cases t <;> first | cases e; rfl | cases e
  | tup xs =>
    obtain ⟨p, vs, rfl, hp, r1⟩ := r.tup ex
    refine key "tuple" (by decide) ?_ ?_
    · intro t b e
      cases t <;> first | cases e; rfl | cases e
    · rcases hp with (hp | ⟨o, hp⟩) | ⟨o, its, n, hk, hc, _⟩
      · exact .base (.tup hp)
      · exact .fTuple hp
      · rw [hK]; exact .kTuple hk hc
  | lst o xs =>
    obtain ⟨p, vs, F', rfl, hp, r1⟩ := r.lst ex
    refine key "list" (by decide) ?_ (.base (.lst hp))
    intro t b e
    cases t <;> first | cases e; rfl | cases e
  | dct o k ks ds =>
    obtain ⟨_, p, kvs, F', rfl, _, _, _, _, hp⟩ := r.dct ex
    refine key "dict" (by decide) ?_ (.base (.dK hp))
    intro t b e
    cases t <;> first | cases e; rfl | cases e
  | _ => cases t0 <;> cases e0
theorem tyX_of (hK : X.K = T.K) {G H : Hp} {d : D} {v : V} {F : List Addr} (ex : Ext G H) (r : Rp T G H d v F) {t : Ty} {b : Bool} (e : isTy d t = some b) : ∃ n, TyX X.K H v (.type n) ∧ PySem.W.kitOne X.K (.type n) (.type t.nm) = some b := by
  obtain ⟨n, h1, h2⟩ := tyX_all hK ex r e
  exact ⟨n, h1, h2 e⟩
theorem e_isinst {t : Ty} (hK : X.K = T.K) (hg : Gl X "isinstance") (hm : X.mg "isinstance" = none) (ha : PE X ea (tO T W (dO C a))) (hb : PE X eb (tC (.ty t.nm))) (pl : plainE ea = true) (pl2 : plainE eb = true) :
    PE X (.Call (.Name "isinstance" p) [ea, eb] [] pos) (tE T W (dE C (.blt (.isinst t) (.cons a .nil)))) := by
  refine (pe_callB call_isi hg hm PyProof.Rows.boot_isinstance (pa_cons ha (pa_cons hb pa_nil (star_cons pl2 [] X.env)) (star_cons pl [eb] X.env)) (by decide) (by decide) (star_cons pl [eb] X.env) (star_any (by simp [pl2]) X.env pos)).weak fun σ H Q h => ?_
  refine (un_den (sem_op1 T _) (blt1 h)).mono fun v H1 z => ?_
  obtain ⟨G, dx, d, Fx, ex, qx, e, n⟩ := z
  have e : (isTy dx t).map D.bl = some d := e
  obtain ⟨b, eb, ed⟩ := Option.map_eq_some_iff.mp e
  subst ed
  obtain ⟨nm, ty, kk⟩ := tyX_of hK ex qx eb
  exact ⟨v, _, _, _, b, rfl, .ty _, ty, kk, n.bl ex⟩
theorem TyX.up {K : PySem.W.Frag} {H : Hp} {v : V} {t : Value} {q : Addr} {o : HO} (h : TyX K H v t) (hq : H q = none) : TyX K (upd H q o) v t := by
  have k : ∀ a u, H a = some u → (upd H q o) a = some u := Ext.new hq
  cases h with
  | base h =>
    refine .base ?_
    cases h with
    | non => exact .non
    | bl => exact .bl _
    | int => exact .int _
    | str => exact .str _
    | flt => exact .flt _
    | lst e => exact .lst (k _ _ e)
    | frz e => exact .frz (k _ _ e)
    | tup e => exact .tup (k _ _ e)
    | dK e => exact .dK (k _ _ e)
    | dT e => exact .dT (k _ _ e)
    | ins e a b c d f => exact .ins (k _ _ e) a b c d f
  | byt => exact .byt _
  | set e => exact .set (k _ _ e)
  | kList e c => exact .kList e c
  | kTuple e c => exact .kTuple e c
  | kDict e c => exact .kDict e c
  | fTuple e => exact .fTuple (k _ _ e)
  | fDict e => exact .fDict (k _ _ e)
theorem e_isinst2 {t u : Ty} {ec : Expr} {x1 : Nat} {p3 : Pos} (hK : X.K = T.K) (hg : Gl X "isinstance") (hm : X.mg "isinstance" = none) (ha : PE X ea (tO T W (dO C a))) (hb : PE X eb (tC (.ty t.nm))) (hc : PE X ec (tC (.ty u.nm))) (pl : plainE ea = true) (pl2 : plainE eb = true) (pl3 : plainE ec = true) :
    PE X (.Call (.Name "isinstance" p) [ea, .Tuple [eb, ec] x1 p3] [] pos) (tE T W (dE C (.blt (.isinst2 t u) (.cons a .nil)))) := by
  have hes : PA X [eb, ec] _ := pa_cons hb (pa_cons hc pa_nil (star_cons pl3 [] X.env)) (star_cons pl2 [ec] X.env)
  refine (pe_callB call_isiT hg hm PyProof.Rows.boot_isinstance (pa_cons ha (pa_cons (pe_tup hes) pa_nil (star_cons rfl [] X.env)) (star_cons pl [.Tuple [eb, ec] x1 p3] X.env)) (by decide) (by decide) (star_cons pl [.Tuple [eb, ec] x1 p3] X.env) (star_any (by rfl) X.env pos)).weak fun σ H Q h => ?_
  refine (un_den (sem_op1 T _) (blt1 h)).mono fun v H1 z => ?_
  obtain ⟨G, dx, d, Fx, ex, qx, e, n⟩ := z
  refine ⟨by show 2 ≤ sizeLine; rw [sizeLine_eq]; omega, fun q hq => ?_⟩
  have e : (match isTy dx t, isTy dx u with | some a, some b => some (D.bl (a || b)) | _, _ => none) = some d := e
  split at e
  · rename_i b1 b2 e1 e2
    cases e
    obtain ⟨nm2, ty, kkk⟩ := tyX_all hK ex qx e1
    have kk := kkk e1
    have kk2 := kkk e2
    refine ⟨v, q, _, .type nm2, [.type t.nm, .type u.nm], b1 || b2, rfl, upd_same, .cons (.ty _) (.cons (.ty _) .nil), TyX.up ty hq, ?_, ?_⟩
    · unfold PySem.W.kitAny
      rw [kk]
      cases b1 with
      | true => rfl
      | false =>
        unfold PySem.W.kitAny
        rw [kk2]
        cases b2 <;> rfl
    · exact n _ _ _ [] (.newS ex hq) ⟨rfl, rfl⟩
  · cases e
end
end Mp
/-! Sets of ints made from a list: their length, sorted. -/
namespace Mp
open PySem PySem.Spec PyProof.Rows L2
section
variable {P : Program} {w : World} {A : Around} {E : Value → Shared → Prop} {s : Shared}
set_option maxHeartbeats 3200000 in
theorem set_listI {l : Addr} {items : Array Value} (ns : List Int) {Q : Value → Shared → Prop} (hh : A.handled = none) (hl : s.heap.IsList l items) (hit : IntsAre items.toList ns) (hb : ns.length + 1 < scanBound)
    (h : ∀ (h' : Heap) (tk c : Nat), SetR w h' s.heap.objs.size (fun j => decide (j ∈ ns)) c → c ≤ ns.length → (∀ b o, s.heap.get? b = some o → h'.get? b = some o) → Q (.ref s.heap.objs.size) { s with heap := h', toks := tk }) :
    wpAny (model P w) A (call (.type "set") [.ref l]) Q E s := by
  have hisz : items.size = ns.length := by
    have q := IntsAre.length hit
    rw [Array.length_toList] at q
    exact q
  obtain ⟨c, tl, hmro⟩ := F.called_set.mro
  have hmade := F.called_set.made
  have hsub := F.called_set.sub
  refine wpAny_call (codeAny_of_tree ?_)
  show wpAny _ _ (callAny (.type "set") _) _ _ _
  refine wpAny_pure ⟨Code.quiet_builtin _ (by decide +kernel), codeAny_builtin F.entry_type_call ?_⟩
  rw [Around.under_plain (weight_type_call_type "set" [.ref l] []) rfl]
  have h1 := F.called_set.notType
  have h2 := F.called_set.canCreate
  have hct := F.typeCall_set_1 (.ref l)
  repeat (any_goals (first | assumption | wp_step))

  refine codeAny_mono (code_set_led1 (.ref l) (E := E) (Q₁ := fun obj s₁ => obj = .ref s.heap.objs.size ∧ s₁ = { s with heap := s.heap.push { cls := .type "set", dict := none, data := .set #[] 0 (.fresh 0 0 (!w.params.followText "set-order")) } }) ⟨rfl, rfl⟩) fun r s₁ hr => ?_
  cases r with
  | error e => exact hr
  | ok fl =>
    cases fl with
    | ret obj =>
      obtain ⟨rfl, rfl⟩ := hr
      have hS : (s.heap.push { cls := .type "set", dict := none, data := .set #[] 0 (.fresh 0 0 (!w.params.followText "set-order")) }).get? s.heap.objs.size = some { cls := .type "set", dict := none, data := .set #[] 0 (.fresh 0 0 (!w.params.followText "set-order")) } := Heap.get?_push_size _ rfl
      have hT : Shared.TypeIs { s with heap := s.heap.push { cls := .type "set", dict := none, data := .set #[] 0 (.fresh 0 0 (!w.params.followText "set-order")) } } (.ref s.heap.objs.size) "set" := ⟨_, hS, rfl⟩
      have hli := F.called_set.init.lookup
      have hbi := F.called_set.init.bind (.ref s.heap.objs.size)
      repeat (any_goals (first | assumption | wp_step))

      refine codeAny_mono (codeAny_call_builtin (R := wants (fun r s₂ => r = .none ∧ ∃ h' tk c, s₂ = { s with heap := h', toks := tk } ∧ SetR w h' s.heap.objs.size (fun j => decide (j ∈ ns)) c ∧ c ≤ ns.length ∧
          (∀ b o, s.heap.get? b = some o → h'.get? b = some o)) E) F.called_set.init.plain F.entry_set_init (check_set_init_1 hT ?_)) fun r₂ s₂ hr₂ => ?_
      · obtain ⟨ol, hol, hcl, nl, hdl⟩ := hl
        obtain ⟨ocls, odict, odata, oslots⟩ := ol
        simp only at hcl hdl
        subst hcl; subst hdl
        have hol' : (s.heap.push { cls := .type "set", dict := none, data := .set #[] 0 (.fresh 0 0 (!w.params.followText "set-order")) }).get? l = some { cls := .type "list", dict := odict, data := .seq items nl, slots := oslots } := Heap.get?_push_of_some _ hol
        have hsls := F.sub_list_set
        have hslf := F.sub_list_frozenset
        have hne : (Value.type "list" == Value.type "dict") = false := by decide
        have hl1 : (s.heap.push { cls := .type "set", dict := none, data := .set #[] 0 (.fresh 0 0 (!w.params.followText "set-order")) }).IsList l items := ⟨_, hol', rfl, nl, rfl⟩
        unfold Builtin.«set.__init__» noKeywords Builtin.Frozenset.updateFrom
        generalize hPI : pyIter = PI
        wp_walk
        subst hPI

        refine wpAny_pyIter_list hl1 ?_
        refine wpAny_bind (wpAny_runValue ?_)
        have hlS : l < s.heap.objs.size := Heap.lt_size hol
        have hh3 : A.in1.in1.in1.handled = none := by simp [hh]
        have hz1 : (s.heap.push { cls := .type "set", dict := none, data := .set #[] 0 (.fresh 0 0 (!w.params.followText "set-order")) }).objs.size = s.heap.objs.size + 1 := Heap.size_push ..
        have hneI : l ≠ (s.heap.push { cls := .type "set", dict := none, data := .set #[] 0 (.fresh 0 0 (!w.params.followText "set-order")) }).objs.size := by
          rw [Heap.size_push]; exact Nat.ne_of_lt (Nat.lt_succ_of_lt hlS)
        have hSf : s.heap.objs.size ∉ [(s.heap.push { cls := .type "set", dict := none, data := .set #[] 0 (.fresh 0 0 (!w.params.followText "set-order")) }).objs.size, l] := by
          rw [Heap.size_push]; simp only [List.mem_cons, List.mem_singleton, List.not_mem_nil, or_false, not_or]
          exact ⟨Nat.ne_of_lt (Nat.lt_succ_self _), Nat.ne_of_gt hlS⟩
        have hval : ∀ (i : Nat) (v : Value), items[i]? = some v → ∃ k t, ns[i]? = some k ∧ v = .int k t := fun i v hv => by
          have hi : i < ns.length := by rw [← hisz]; exact (Array.getElem?_eq_some_iff.mp hv).1
          obtain ⟨t, e⟩ := PyProof.Rows.IntsAre.int_at hit i v (by rw [Array.getElem?_toList]; exact hv)
          refine ⟨ns[i], t, List.getElem?_eq_getElem hi, ?_⟩
          rw [e, List.getD_eq_getElem?_getD, List.getElem?_eq_getElem hi] <;> rfl
        refine set_update_ints ((Walks.list hh3 _ l hneI items).toS) s.heap.objs.size
          hSf ns hisz hb hval (items.size - 0) 0 _ (by omega) (Nat.zero_le _)
          ⟨⟨_, Heap.get?_push_size _ rfl, rfl, rfl⟩, (hl1.push _)⟩ ?hS0 ?hR
        case hS0 =>
          have hget : ((s.heap.push { cls := .type "set", dict := none, data := .set #[] 0 (.fresh 0 0 (!w.params.followText "set-order")) }).push { cls := .type "list_iterator", data := .fields #[.ref l, .int 0 0] }).get? s.heap.objs.size
              = some { cls := .type "set", dict := none, data := .set #[] 0 (.fresh 0 0 (!w.params.followText "set-order")) } := Heap.get?_push_of_some _ hS
          exact ⟨0, Nat.le_refl 0, setR_new_at hget⟩
        case hR =>
          intro s' c' hm hc' hS'
          obtain ⟨h', g2, d', tk', os'⟩ := s'
          have eg : g2 = s.gens := hm.gens
          have ed : d' = s.drawn := hm.drawn
          have eo : os' = s.os := hm.os
          subst eg; subst ed; subst eo
          show wpAny _ _ _ _ _ _
          refine wpAny_pure ?_
          show wpAny _ _ (ret Value.none) _ _ _
          rw [hisz] at hc'
          refine wpAny_pure ⟨rfl, h', tk', c', rfl, hS', hc', fun b o e => ?_⟩
          have hb0 : b < s.heap.objs.size := Heap.lt_size e
          have hb1 : b ≠ s.heap.objs.size := Nat.ne_of_lt hb0
          have hb2 : b ≠ (s.heap.push { cls := .type "set", dict := none, data := .set #[] 0 (.fresh 0 0 (!w.params.followText "set-order")) }).objs.size := by
            rw [Heap.size_push]; exact Nat.ne_of_lt (Nat.lt_succ_of_lt hb0)
          exact hm.heap b o (by simp only [List.mem_cons, List.mem_singleton, List.not_mem_nil, or_false, not_or]; exact ⟨hb1, hb2⟩) (Heap.get?_push_of_some _ (Heap.get?_push_of_some _ e))

      · cases r₂ with
        | error e => exact hr₂
        | ok fl₂ =>
          cases fl₂ with
          | ret r =>
            obtain ⟨rfl, h', tk, c', rfl, hS', hc', hk'⟩ := hr₂
            repeat (any_goals (first | assumption | wp_step))
            exact h _ _ _ hS' hc' hk'
          | _ => exact hr₂.elim
    | _ => exact hr.elim

end
section
theorem mem_dedI {k : Int} : ∀ {xs : List Int}, k ∈ dedI xs ↔ k ∈ xs
  | [] => Iff.rfl
  | x :: xs => by
    unfold dedI
    split
    · rename_i h
      rw [mem_dedI, List.mem_cons]
      refine ⟨.inr, fun z => z.elim (fun e => ?_) id⟩
      rw [e]
      simpa using h
    · rw [List.mem_cons, List.mem_cons, mem_dedI]
theorem nodup_dedI : ∀ xs : List Int, (dedI xs).Nodup
  | [] => List.nodup_nil
  | x :: xs => by
    unfold dedI
    split
    · exact nodup_dedI xs
    · rename_i h
      refine List.nodup_cons.mpr ⟨fun z => h ?_, nodup_dedI xs⟩
      have := mem_dedI.mp z
      simpa using this
variable {X : Cx} {T : Tab} {W : WX} {C : Cfg} {ea : Expr} {pos p p2 q : Pos} {a : O}
/-- set(xs) of a list of ints, in a call of f -/
theorem set_arg {f : String} {Q : VK} {pins : List (Addr × Obj)} {s : Shared} {σ : L2.St} {H : Hp} {u : Value} {x : V} {Fx : List Addr} {G : Hp} {ns : List Int} {o : Bool} {ys : List D} (hc : X.calm = true) (I : L2.Inv X pins σ H s) (ru : RelV x u) (ex : Ext G H) (r : Rp T G H (.lst o ys) x Fx)
    (t : toInts ys = some ns) (hl : ns.length + 1 < scanBound) {QQ : Value → Shared → Prop}
    (k : ∀ (h' : Heap) (tk c : Nat), SetR X.w h' s.heap.objs.size (fun j => decide (j ∈ ns)) c → c ≤ ns.length → L2.Inv X pins σ H { s with heap := h', toks := tk } → QQ (.ref s.heap.objs.size) { s with heap := h', toks := tk }) :
    wpAny (model X.prog X.w) X.A (call (.type "set") [u]) QQ X.xe s := by
  obtain ⟨l, vs, F', rfl, hp, r1⟩ := r.lst ex
  have e2 := RpL.toI r1 t
  subst e2
  cases ru
  obtain ⟨its, rv, pl, hz⟩ := I.list (.inl (.inl hp))
  exact set_listI ns (I.ok.hd hc) pl.isList (by simpa using rv.ints) hl fun h' tk c R hcl hk => k h' tk c R hcl (I.kept hk)
/-- set(xs) of a tuple of ints, in a call of f -/
theorem set_argT {f : String} {Q : VK} {pins : List (Addr × Obj)} {s : Shared} {σ : L2.St} {H : Hp} {u : Value} {x : V} {Fx : List Addr} {G : Hp} {ns : List Int}{ys : List D} (hK : X.K = T.K) (hc : X.calm = true) (I : L2.Inv X pins σ H s) (ru : RelV x u) (ex : Ext G H) (r : Rp T G H (.tup ys) x Fx)
    (t : toInts ys = some ns) (hl : ns.length + 1 < scanBound) {QQ : Value → Shared → Prop}
    (k : ∀ (h' : Heap) (tk c : Nat), SetR X.w h' s.heap.objs.size (fun j => decide (j ∈ ns)) c → c ≤ ns.length → L2.Inv X pins σ H { s with heap := h', toks := tk } → QQ (.ref s.heap.objs.size) { s with heap := h', toks := tk }) :
    wpAny (model X.prog X.w) X.A (call (.type "set") [u]) QQ X.xe s := by
  obtain ⟨l, vs, rfl, hp, r1⟩ := r.tup ex
  have e2 := RpL.toI r1 t
  subst e2
  cases ru
  obtain ⟨its, rv, pl, hz⟩ := I.tuple (by rw [hK]; exact hp)
  exact call_set_tupI ns (I.ok.hd hc) (show s.heap.IsTuple l its.toArray from pl) (by simpa using rv.ints) hl fun h' tk c R hcl hk => k h' tk c R hcl (I.kept hk)
theorem e_lenset (hc : X.calm = true) (hg : Gl X "len") (hm : X.mg "len" = none) (hg2 : Gl X "set") (hm2 : X.mg "set" = none) (ha : PE X ea (tO T W (dO C a))) (pl : plainE ea = true) :
    PE X (.Call (.Name "len" p) [.Call (.Name "set" p2) [ea] [] q] [] pos) (tE T W (dE C (.blt .lenset (.cons a .nil)))) := by
  refine ⟨fun pins s σ H Q I h => ?_⟩
  have h := un_den (sem_op1 T _) (blt1 h)
  refine Call_ (ld_blt I hg hm PySem.boot_len ?_)
  refine callWith_builtin1 (args_cons ?_ rfl) rfl rfl
  refine Call_ (ld_blt I hg2 hm2 PyProof.Rows.boot_set ?_)
  refine callWith_type1 (args_cons (thn (ha.run pins s σ H _ I h) fun v s1 ⟨x, H1, I1, r1, q1⟩ => args_nil ?_) (star_cons pl [] X.env)) (star_cons pl [] X.env) rfl
  obtain ⟨G, dx, d, Fx, ex, qx, e, n⟩ := q1
  cases dx with
  | lst o ys =>
    have e : (match toInts ys with | some a => (if decide (a.length < 1000) then some (D.int (dedI a).length) else none) | none => none) = some d := e
    split at e
    · rename_i ns et
      split at e
      · rename_i hl
        cases e
        refine set_arg (f := "len") (Q := Q) hc I1 r1 ex qx et (by have := of_decide_eq_true hl; unfold scanBound; omega) fun h' tk c R hcl I2 => ?_
        obtain ⟨ob, es, ep, t, ho, hex, hd, g, nd, hm', hb, hf, hn, _⟩ := R
        refine args_nil ?_
        refine call_len_set ho hex hd hf (by rw [hn]; have := of_decide_eq_true hl; omega) ⟨.int es.size, H1, I2.tok _, ⟨_, rfl⟩, ?_⟩
        have pm : (es.toList.map L2.keyOf).Perm (dedI ns) := (List.perm_ext_iff_of_nodup nd (nodup_dedI ns)).mpr fun k => by
          rw [mem_dedI, ← hm' k]
          exact decide_eq_true_iff
        have el : es.size = (dedI ns).length := by rw [← pm.length_eq, List.length_map, Array.length_toList]
        rw [el]
        exact n.int ex
      · cases e
    · cases e
  | _ => cases e
theorem e_sortedset (hK : X.K = T.K) (hc : X.calm = true) (hg : Gl X "sorted") (hm : X.mg "sorted" = none) (hg2 : Gl X "set") (hm2 : X.mg "set" = none) (ha : PE X ea (tO T W (dO C a))) (pl : plainE ea = true) :
    PE X (.Call (.Name "sorted" p) [.Call (.Name "set" p2) [ea] [] q] [] pos) (tE T W (dE C (.blt .sortedset (.cons a .nil)))) := by
  refine ⟨fun pins s σ H Q I h => ?_⟩
  have h := un_den (sem_op1 T _) (blt1 h)
  refine Call_ (ld_blt I hg hm PyProof.Rows.boot_sorted ?_)
  refine callWith_builtin1 (args_cons ?_ rfl) rfl rfl
  refine Call_ (ld_blt I hg2 hm2 PyProof.Rows.boot_set ?_)
  refine callWith_type1 (args_cons (thn (ha.run pins s σ H _ I h) fun v s1 ⟨x, H1, I1, r1, q1⟩ => args_nil ?_) (star_cons pl [] X.env)) (star_cons pl [] X.env) rfl
  obtain ⟨G, dx, d, Fx, ex, qx, e, n⟩ := q1
  cases dx with
  | lst o ys =>
    have e : (match toInts ys with | some a => (if decide (a.length < 60) then some (D.lst true ((sortI (dedI a)).map D.int)) else none) | none => none) = some d := e
    split at e
    · rename_i ns et
      split at e
      · rename_i hl
        cases e
        have hl := of_decide_eq_true hl
        refine set_arg (f := "sorted") (Q := Q) hc I1 r1 ex qx et (by unfold scanBound; omega) fun h' tk c R hcl I2 => ?_
        refine args_nil ?_
        refine sorted_set R (I2.ok.hd hc) (by omega) fun s' p out c' ns' k g o hp hg' hi hs hmm hln => ?_
        have hlen : (ns'.map V.int).length ≤ sizeLine := by rw [List.length_map, hln, sizeLine_eq]; omega
        have hn : H1 p = none := I2.hok.fresh hp
        have J := I2.call (ch := []) (h' := s'.heap) (g' := s'.gens) (d' := s'.drawn) (t' := s'.toks) (Un.laid (o := .lst (ns'.map V.int)) k hp hn) (I2.hok.laid k hp (o := .lst (ns'.map V.int)) ⟨hlen, out.toList, c', vals_of_ints hi, hg'⟩) (by rw [g]; exact I2.bare) (fun _ z => nomatch z)
        have e : s' = { heap := s'.heap, gens := s'.gens, drawn := s'.drawn, toks := s'.toks, os := s1.os } := by
          cases s'
          cases s1
          cases o
          rfl
        rw [e]
        have nd : ns'.Nodup := hs.imp fun h e => by omega
        have pm : ns'.Perm (dedI ns) := (List.perm_ext_iff_of_nodup nd (nodup_dedI ns)).mpr fun k => by
          rw [mem_dedI, hmm k]
          exact decide_eq_true_iff
        have es := sort_uniq pm (hs.imp fun h => Int.le_of_lt h)
        refine ⟨.ref p, _, J, rfl, ?_⟩
        rw [es]
        exact n.ints ex hn
      · cases e
    · cases e
  | tup ys =>
    have e : (match toInts ys with | some a => (if decide (a.length < 60) then some (D.lst true ((sortI (dedI a)).map D.int)) else none) | none => none) = some d := e
    split at e
    · rename_i ns et
      split at e
      · rename_i hl
        cases e
        have hl := of_decide_eq_true hl
        refine set_argT (f := "sorted") (Q := Q) hK hc I1 r1 ex qx et (by unfold scanBound; omega) fun h' tk c R hcl I2 => ?_
        refine args_nil ?_
        refine sorted_set R (I2.ok.hd hc) (by omega) fun s' p out c' ns' k g o hp hg' hi hs hmm hln => ?_
        have hlen : (ns'.map V.int).length ≤ sizeLine := by rw [List.length_map, hln, sizeLine_eq]; omega
        have hn : H1 p = none := I2.hok.fresh hp
        have J := I2.call (ch := []) (h' := s'.heap) (g' := s'.gens) (d' := s'.drawn) (t' := s'.toks) (Un.laid (o := .lst (ns'.map V.int)) k hp hn) (I2.hok.laid k hp (o := .lst (ns'.map V.int)) ⟨hlen, out.toList, c', vals_of_ints hi, hg'⟩) (by rw [g]; exact I2.bare) (fun _ z => nomatch z)
        have e : s' = { heap := s'.heap, gens := s'.gens, drawn := s'.drawn, toks := s'.toks, os := s1.os } := by
          cases s'
          cases s1
          cases o
          rfl
        rw [e]
        have nd : ns'.Nodup := hs.imp fun h e => by omega
        have pm : ns'.Perm (dedI ns) := (List.perm_ext_iff_of_nodup nd (nodup_dedI ns)).mpr fun k => by
          rw [mem_dedI, hmm k]
          exact decide_eq_true_iff
        have es := sort_uniq pm (hs.imp fun h => Int.le_of_lt h)
        refine ⟨.ref p, _, J, rfl, ?_⟩
        rw [es]
        exact n.ints ex hn
      · cases e
    · cases e
  | _ => cases e
end
end Mp
/-! Calls of the law's own defs. -/
namespace Mp
open PySem L2

/-- what a def promises, by data -/
def spOf (T : Tab) (f : Fn) : Sp := fun vs H Q E => ∃ G ds F, Ext G H ∧ RpL T G H ds vs F ∧ F.Nodup ∧ (∀ a ∈ F, G a = none) ∧ match f ds with
  | .ok d outs => ∀ v H' G' Fv F', Step G H F G' H' (Fv ++ F') → Rp T G' H' d v Fv → RpL T G' H' outs vs F' → Q v H'
  | .exc c x => ∀ H' dd G' w, Step G H F G' H' [] → G' dd = some (.xd [(T.xf c, w)]) → Rp T G' H' x w [] → XOk T c x → E (.ref (T.xa c)) (some dd) H'
  | .stuck => False

section
variable {T : Tab} {W : WX} {G G' H H' : Hp} {ρ : Env} {σ : L2.St} {F : List Addr}
/-- operands that stand as long as they can be read -/
def TmpW (T : Tab) (G H : Hp) (ρ : Env) (σ : L2.St) : List OV → List V → List Addr → Prop
  | [], vs, F => vs = [] ∧ F = []
  | .tm d :: as, vs, F => ∃ v ws F1 F2, vs = v :: ws ∧ F = F1 ++ F2 ∧ Rp T G H d v F1 ∧ TmpW T G H ρ σ as ws F2
  | .pl i π :: as, vs, F => ∃ v ws, vs = v :: ws ∧ (∀ c, getS ρ i π = some c → VAt T H ρ σ i π v) ∧ TmpW T G H ρ σ as ws F
theorem TmpL.w : ∀ {as : List OV} {vs : List V} {F : List Addr}, TmpL T G H ρ σ as vs F → TmpW T G H ρ σ as vs F
  | [], vs, F, h => h
  | .tm d :: as, vs, F, h => by
    obtain ⟨v, ws, F1, F2, e, ef, t, r⟩ := h
    exact ⟨v, ws, F1, F2, e, ef, t, TmpL.w r⟩
  | .pl i π :: as, vs, F, h => by
    obtain ⟨v, ws, F1, F2, e, ef, ⟨e1, va⟩, r⟩ := h
    subst e1 ef
    exact ⟨v, ws, e, fun _ _ => va, TmpL.w r⟩
theorem slot_set_ne {ρ : Env} {i j : Nat} {d : D} (h : i ≠ j) : slot (ρ.set i d) j = slot ρ j := by
  unfold slot
  rw [List.getD_eq_getElem?_getD, List.getD_eq_getElem?_getD, List.getElem?_set_ne h]
theorem slot_set_gone {ρ : Env} {i : Nat} : slot (ρ.set i .gone) i = .gone := by
  unfold slot
  rw [List.getD_eq_getElem?_getD, List.getElem?_set]
  split
  · split <;> rfl
  · rename_i h; exact absurd rfl h
theorem getS_gone {ρ : Env} {i : Nat} (h : slot ρ i = .gone) : ∀ π, getS ρ i π = none := fun π => by
  unfold getS
  rw [h]
  cases π with
  | nil => rfl
  | cons n π => rfl
theorem TmpW.gone {i : Nat} : ∀ {as : List OV} {vs : List V} {F : List Addr}, TmpW T G H ρ σ as vs F → TmpW T G H (ρ.set i .gone) σ as vs F
  | [], vs, F, h => h
  | .tm d :: as, vs, F, h => by
    obtain ⟨v, ws, F1, F2, e, ef, t, r⟩ := h
    exact ⟨v, ws, F1, F2, e, ef, t, TmpW.gone r⟩
  | .pl j π :: as, vs, F, h => by
    obtain ⟨v, ws, e, va, r⟩ := h
    refine ⟨v, ws, e, fun c ec => ?_, TmpW.gone r⟩
    by_cases hij : i = j
    · subst hij
      rw [getS_gone slot_set_gone] at ec
      cases ec
    · have es : slot (ρ.set i .gone) j = slot ρ j := slot_set_ne hij
      have : getS ρ j π = some c := by
        unfold getS at ec ⊢
        rw [es] at ec
        exact ec
      obtain ⟨u, eu, pv⟩ := va c this
      exact ⟨u, eu, by rw [es]; exact pv⟩
theorem TmpW.trk : ∀ {as : List OV} {vs : List V} {F : List Addr}, TmpW T G H ρ σ as vs F → Trk H F
  | [], vs, F, h => by obtain ⟨_, rfl⟩ := h; exact fun _ z => nomatch z
  | .tm d :: as, vs, F, h => by
    obtain ⟨v, ws, F1, F2, _, rfl, t, r⟩ := h
    intro x hx
    rcases List.mem_append.mp hx with z | z
    · exact Rp.trk _ _ _ t x z
    · exact TmpW.trk r x z
  | .pl i π :: as, vs, F, h => by
    obtain ⟨v, ws, _, _, r⟩ := h
    exact TmpW.trk r
theorem take_raw {i : Nat} {π : List Nat} {d : D} {v : V} (P : Pre T G H ρ σ F) (va : VAt T H ρ σ i π v) (e : getS ρ i π = some d) : ∃ F1 F3, Rp T G H d v F1 ∧ Step G H F G H (F1 ++ F3) ∧ RpE T G H (setS ρ i π .gone) σ F3 := by
  obtain ⟨F1, r, n1, g1, put⟩ := P.change e va
  obtain ⟨F', ev⟩ := put (Fv := F1) (F1' := []) (G' := G) (H' := H) (c' := .gone) ⟨.refl _, P.ex, fun _ _ q _ => q, fun a ha => .inl (by rw [List.append_nil] at ha; exact ha), fun _ _ q => .inl q, by rw [List.append_nil]; exact n1, fun a ha => g1 a (by rw [List.append_nil] at ha; exact ha)⟩ (by simp only [Rp])
  exact ⟨F1, F', r, ev.step, ev.env⟩
/-- the slots that are lent hold the values -/
def Lent (σ : L2.St) : List (Option Nat) → List V → Prop
  | [], vs => vs = []
  | b :: bs, vs => ∃ v ws, vs = v :: ws ∧ (∀ i, b = some i → σ[i]? = some (some v)) ∧ Lent σ bs ws
theorem takeL_ok : ∀ {as : List OV} {vs : List V} {ρ : Env} {Fv F : List Addr} {ds : List D} {bs : List (Option Nat)} {o : Option Env}, Ext G H → RpE T G H ρ σ F → (Fv ++ F).Nodup → (∀ a ∈ Fv ++ F, G a = none) → TmpW T G H ρ σ as vs Fv → takeL as ρ = some (ds, bs, o) →
    ∃ Fd F', Step G H (Fv ++ F) G H (Fd ++ F') ∧ RpE T G H (now ρ o) σ F' ∧ RpL T G H ds vs Fd ∧ (o = none → F' = F) ∧ Lent σ bs vs
  | [], vs, ρ, Fv, F, ds, bs, o, ex, re, nd, gn, h, e => by
    cases e
    obtain ⟨rfl, rfl⟩ := h
    exact ⟨[], F, ⟨.refl _, ex, fun _ _ q _ => q, fun a ha => .inl ha, fun _ _ q => .inl q, nd, gn⟩, re, ⟨rfl, rfl⟩, fun _ => rfl, rfl⟩
  | .tm d :: as, vs, ρ, Fv, F, ds, bs, o, ex, re, nd, gn, h, e => by
    obtain ⟨v, ws, F1, F2, rfl, rfl, r1, r2⟩ := h
    simp only [takeL, takeV, now_none] at e
    split at e
    · cases e
    · rename_i ds' bs' o2 e2
      cases e
      rw [List.append_assoc] at nd gn
      obtain ⟨n1, n2, n3⟩ := List.nodup_append.mp nd
      obtain ⟨Fd, F', s, re', rl, eo, ln⟩ := takeL_ok ex re n2 (fun a ha => gn a (List.mem_append_right _ ha)) r2 e2
      refine ⟨F1 ++ Fd, F', ?_, ?_, ⟨v, ws, F1, Fd, rfl, rfl, r1, rl⟩, ?_, ⟨v, ws, rfl, (fun i z => nomatch z), ln⟩⟩
      · have m := s.more (Rp.trk _ _ _ r1) (fun a ha => gn a (List.mem_append_left _ ha)) n1 fun a ha hb => n3 a ha a hb rfl
        rw [List.append_assoc, List.append_assoc]
        exact m
      · cases o2 <;> exact re'
      · intro z; cases o2 with
        | none => exact eo rfl
        | some r => cases z
  | .pl i π :: as, vs, ρ, Fv, F, ds, bs, o, ex, re, nd, gn, h, e => by
    obtain ⟨v, ws, rfl, va, r2⟩ := h
    have P : Pre T G H ρ σ F := ⟨ex, re, (List.nodup_append.mp nd).2.1, fun a ha => gn a (List.mem_append_right _ ha)⟩
    simp only [takeL, takeV] at e
    cases eg : getS ρ i π with
    | none => simp only [eg] at e; cases e
    | some c =>
      simp only [eg] at e
      have va := va c eg
      cases hs : sh c with
      | true =>
        simp only [hs, now_none] at e
        split at e
        · cases e
        · rename_i ds' bs' o2 e2
          cases e
          obtain ⟨F1, rc, _⟩ := P.change eg va
          obtain ⟨Fd, F', s, re', rl, eo, ln⟩ := takeL_ok ex re nd gn r2 e2
          refine ⟨Fd, F', s, ?_, ⟨v, ws, [], Fd, rfl, rfl, Rp.sh hs rc (.refl _), rl⟩, ?_, ⟨v, ws, rfl, (fun i z => nomatch z), ln⟩⟩
          · cases o2 <;> exact re'
          · intro z; cases o2 with
            | none => exact eo rfl
            | some r => cases z
      | false =>
        simp only [hs] at e
        cases π with
        | cons n π => cases e
        | nil =>
          simp only at e
          split at e
          · cases e
          · rename_i ds' bs' o2 e2
            cases e
            obtain ⟨F1, F3, rc, s1, re1⟩ := take_raw P va eg
            have s1 : Step G H (Fv ++ F) G H (Fv ++ (F1 ++ F3)) := s1.more (TmpW.trk r2) (fun a ha => gn a (List.mem_append_left _ ha)) (List.nodup_append.mp nd).1 fun a ha hb => (List.nodup_append.mp nd).2.2 a ha a hb rfl
            have pm : (Fv ++ (F1 ++ F3)).Perm (F1 ++ (Fv ++ F3)) := by
              rw [← List.append_assoc, ← List.append_assoc]
              exact List.perm_append_comm.append_right F3
            have s2 := s1.perm (.refl _) pm
            obtain ⟨n1, n2, n3⟩ := List.nodup_append.mp s2.nd
            obtain ⟨Fd, F', s, re', rl, eo, ln⟩ := takeL_ok ex re1 n2 (fun a ha => s2.gn a (List.mem_append_right _ ha)) r2.gone e2
            obtain ⟨w, ew, ev⟩ := va
            have ev : w = v := ev
            subst ev
            refine ⟨F1 ++ Fd, F', ?_, ?_, ⟨w, ws, F1, Fd, rfl, rfl, rc, rl⟩, ?_, ⟨w, ws, rfl, (fun j z => by cases z; exact ew), ln⟩⟩
            · have m := s.more (Rp.trk _ _ _ rc) (fun a ha => s2.gn a (List.mem_append_left _ ha)) n1 fun a ha hb => n3 a ha a hb rfl
              rw [List.append_assoc]
              exact s2.trans m
            · cases o2 <;> exact re'
            · intro z; cases o2 <;> cases z
/-- what was lent comes back -/
theorem set_same {α : Type} {xs : List α} {i : Nat} {x : α} (h : xs[i]? = some x) : xs.set i x = xs := List.ext_getElem? fun j => by
  rw [List.getElem?_set]
  split
  · rename_i hj
    subst hj
    split
    · exact h.symm
    · rename_i hn
      rw [List.getElem?_eq_none (by omega)]
  · rfl
theorem RpE.put {i : Nat} {d : D} {v : V} {F1 : List Addr} (re : RpE T G H ρ σ F) (nd : (F1 ++ F).Nodup) (r : Rp T G H d v F1) (e : σ[i]? = some (some v)) : ∃ F', F'.Nodup ∧ (∀ a ∈ F', a ∈ F1 ++ F) ∧ RpE T G H (ρ.set i d) σ F' := by
  obtain ⟨n1, n2, n3⟩ := List.nodup_append.mp nd
  by_cases hi : i < ρ.length
  · obtain ⟨s, A, R, es, pm, rs, put⟩ := re.focus hi
    obtain ⟨F', pm', re'⟩ := put (.refl _) (fun a ha o q => q) (.inr ⟨v, rfl, r⟩)
    rw [set_same e] at re'
    have nR := (List.nodup_append.mp (pm.nodup_iff.mp n2)).2.1
    have sub : ∀ a ∈ R, a ∈ F := fun a ha => pm.mem_iff.mpr (List.mem_append_right _ ha)
    refine ⟨F', pm'.nodup_iff.mpr (List.nodup_append.mpr ⟨n1, nR, fun a ha b hb => n3 a ha b (sub b hb)⟩), fun a ha => ?_, re'⟩
    rcases List.mem_append.mp (pm'.mem_iff.mp ha) with z | z
    · exact List.mem_append_left _ z
    · exact List.mem_append_right _ (sub a z)
  · rw [List.set_eq_of_length_le (by omega)]
    exact ⟨F, n2, fun a ha => List.mem_append_right _ ha, re⟩
theorem giveL_ok : ∀ {bs : List (Option Nat)} {vs : List V} {outs : List D} {ρ : Env} {Fo F : List Addr}, RpE T G H ρ σ F → (Fo ++ F).Nodup → RpL T G H outs vs Fo → Lent σ bs vs → ∃ F', F'.Nodup ∧ (∀ a ∈ F', a ∈ Fo ++ F) ∧ RpE T G H (giveL bs outs ρ) σ F'
  | [], vs, outs, ρ, Fo, F, re, nd, rl, ln => by
    refine ⟨F, (List.nodup_append.mp nd).2.1, fun a ha => List.mem_append_right _ ha, ?_⟩
    unfold giveL
    exact re
  | b :: bs, vs, [], ρ, Fo, F, re, nd, rl, ln => by
    refine ⟨F, (List.nodup_append.mp nd).2.1, fun a ha => List.mem_append_right _ ha, ?_⟩
    cases b <;> exact re
  | b :: bs, vs, x :: outs, ρ, Fo, F, re, nd, rl, ln => by
    obtain ⟨v, ws, e1, hb, ln⟩ := ln
    obtain ⟨v', ws', F1, F2, e2, rfl, r1, rl⟩ := rl
    rw [e1] at e2
    cases e2
    rw [List.append_assoc] at nd
    obtain ⟨n1, n2, n3⟩ := List.nodup_append.mp nd
    cases b with
    | none =>
      obtain ⟨F', a, b, c⟩ := giveL_ok re n2 rl ln
      exact ⟨F', a, fun q hq => by rw [List.append_assoc]; exact List.mem_append_right _ (b q hq), c⟩
    | some i =>
      have nd1 : (F1 ++ F).Nodup := by
        refine nd.sublist ?_
        exact (List.sublist_append_right F2 F).append_left F1
      obtain ⟨F3, m1, m2, re1⟩ := re.put nd1 r1 (hb i rfl)
      have nd2 : (F2 ++ F3).Nodup := by
        obtain ⟨k1, k2, k3⟩ := List.nodup_append.mp n2
        refine List.nodup_append.mpr ⟨k1, m1, fun p hp q hq => ?_⟩
        rcases List.mem_append.mp (m2 q hq) with z | z
        · exact fun e => n3 q z p (List.mem_append_left _ hp) e.symm
        · exact k3 p hp q z
      obtain ⟨F', a, b, c⟩ := giveL_ok re1 nd2 rl ln
      refine ⟨F', a, fun q hq => ?_, c⟩
      rw [List.append_assoc]
      rcases List.mem_append.mp (b q hq) with z | z
      · exact List.mem_append_right _ (List.mem_append_left _ z)
      · rcases List.mem_append.mp (m2 q z) with z | z
        · exact List.mem_append_left _ z
        · exact List.mem_append_right _ (List.mem_append_right _ z)
theorem giveL_none {bs : List (Option Nat)} : ∀ {outs : List D} {ρ : Env}, bs.any (·.isSome) = false → giveL bs outs ρ = ρ := by
  induction bs with
  | nil => intro outs ρ _; unfold giveL; rfl
  | cons b bs ih =>
    intro outs ρ h
    rw [List.any_cons, Bool.or_eq_false_iff] at h
    cases b with
    | some i => cases h.1
    | none =>
      cases outs with
      | nil => rfl
      | cons x xs => exact ih h.2
/-- the call of a function of data -/
theorem runF_ok {fn : Fn} {as : List OV} {vs : List V} {o : Option Env} {G1 H1 : Hp} {Fv F1 : List Addr} {Q : VK} (E : Ev T G H F ρ σ o G1 H1 Fv F1) (t : TmpL T G1 H1 (now ρ o) σ as vs Fv)
    (h : Post (runF fn as (now ρ o) o) (fun (d, o') => ∀ v H', OkE T G H F ρ σ o' d v H' → Q v H') (Xi T W G H F σ)) : spOf T fn vs H1 Q (WE W σ) := by
  unfold runF at h
  cases et : takeL as (now ρ o) with
  | none => simp only [et] at h; exact h.elim
  | some q =>
    obtain ⟨ds, bs, o1⟩ := q
    simp only [et] at h
    obtain ⟨Fd, F', s, re, rl, eo, ln⟩ := takeL_ok E.step.h E.env E.step.nd E.step.gn t.w et
    have S := E.step.trans s
    obtain ⟨n1, n2, n3⟩ := List.nodup_append.mp S.nd
    have dj : ∀ a ∈ F', a ∉ Fd := fun a ha hb => n3 a hb a ha rfl
    refine ⟨G1, ds, Fd, E.step.h, rl, n1, fun a ha => S.gn a (List.mem_append_left _ ha), ?_⟩
    cases ef : fn ds with
    | stuck => simp only [ef] at h; exact h.elim
    | exc c x =>
      simp only [ef] at h ⊢
      intro H' dd G' w s' hd rx fx
      refine h H' dd ⟨G', F', ?_, ?_, w, hd, rx, fx⟩
      · have m := s'.more (R := F') re.trk (fun a ha => S.gn a (List.mem_append_right _ ha)) n2 dj
        rw [List.append_nil] at m
        exact (S.perm (.refl _) List.perm_append_comm).trans m
      · exact re.mono s'.g fun a ha q e => s'.keep a q e (dj a ha)
    | ok d outs =>
      simp only [ef] at h ⊢
      intro v H' G' Fw Fo s' rd ro
      have m := s'.more (R := F') re.trk (fun a ha => S.gn a (List.mem_append_right _ ha)) n2 dj
      have S2 := (S.perm (.refl _) List.perm_append_comm).trans m
      have re' : RpE T G' H' (now (now ρ o) o1) σ F' := re.mono s'.g fun a ha q e => s'.keep a q e (dj a ha)
      obtain ⟨k1, k2, k3⟩ := List.nodup_append.mp S2.nd
      obtain ⟨k4, k5, k6⟩ := List.nodup_append.mp k2
      have ndo : (Fo ++ F').Nodup := List.nodup_append.mpr ⟨k5, k1, fun a ha b hb e => k3 b hb a (List.mem_append_right _ ha) e.symm⟩
      obtain ⟨F3, m1, m2, re3⟩ := giveL_ok re' ndo ro ln
      have S3 : Step G H F G' H' (Fw ++ F3) := S2.less (List.nodup_append.mpr ⟨k4, m1, fun a ha b hb => by
          rcases List.mem_append.mp (m2 b hb) with z | z
          · exact k6 a ha b z
          · exact fun e => k3 b z a (List.mem_append_left _ ha) e.symm⟩) fun a ha => by
        rcases List.mem_append.mp ha with z | z
        · exact List.mem_append_right _ (List.mem_append_left _ z)
        · rcases List.mem_append.mp (m2 a z) with z | z
          · exact List.mem_append_right _ (List.mem_append_right _ z)
          · exact List.mem_append_left _ z
      refine h v H' ?_
      show OkE T G H F ρ σ (given bs outs (now (now ρ o) o1) (orE o1 o)) d v H'
      unfold given
      cases hb : bs.any (·.isSome) with
      | true => exact ⟨G', Fw, F3, ⟨S3, re3, fun z => nomatch z⟩, rd⟩
      | false =>
        rw [giveL_none hb] at re3
        refine ⟨G', Fw, F', ⟨S2.less (List.nodup_append.mpr ⟨k4, k1, fun a ha b hb e => k3 b hb a (List.mem_append_left _ ha) e.symm⟩) fun a ha => ?_, by rw [← now_now]; exact re', fun z => ?_⟩, rd⟩
        · rcases List.mem_append.mp ha with z | z
          · exact List.mem_append_right _ (List.mem_append_left _ z)
          · exact List.mem_append_left _ z
        · have e1 : o1 = none := by cases o1 with
            | none => rfl
            | some r => cases z
          subst e1
          have e2 : o = none := z
          obtain ⟨xh, ef'⟩ := E.calm e2
          have eF := eo rfl
          refine ⟨fun a q e => s'.keep a q (xh a q e) fun hd => ?_, eF.trans ef'⟩
          have nF : a ∉ F' := fun hb => n3 a hd a hb rfl
          rcases s.sub a (List.mem_append_left _ hd) with z | z
          · rcases List.mem_append.mp z with z | z
            · rcases E.step.sub a (List.mem_append_left _ z) with z | z
              · exact nF (by rw [eF, ef']; exact z)
              · rw [e] at z; cases z
            · exact nF (by rw [eF]; exact z)
          · rw [xh a q e] at z; cases z
end
end Mp
/-! Calls by name, methods, new instances; methods of lists and dicts. -/
namespace Mp
open PySem L2

section
variable {T : Tab} {W : WX} {G G' H H' : Hp} {ρ : Env} {σ : L2.St} {F : List Addr} {Q : VK}
theorem tOs.mono {den : Env → R (List OV × Option Env)} {Q Q' : List V → Hp → Prop} (h : tOs T W den σ H Q) (k : ∀ v H', Q v H' → Q' v H') : tOs T W den σ H Q' := by
  obtain ⟨G, ρ, F, P, h⟩ := h
  exact ⟨G, ρ, F, P, h.imp (fun (a, o) h v H' z => k v H' (h v H' z)) fun _ _ _ z => z⟩
theorem tEs.mono {den : Env → R (List D × Option Env)} {Q Q' : List V → Hp → Prop} (h : tEs T W den σ H Q) (k : ∀ v H', Q v H' → Q' v H') : tEs T W den σ H Q' := by
  obtain ⟨G, ρ, F, P, h⟩ := h
  exact ⟨G, ρ, F, P, h.imp (fun (a, o) h v H' z => k v H' (h v H' z)) fun _ _ _ z => z⟩
theorem call_den {C : Cfg} {f : Nat} {os : Os} (h : tE T W (dE C (.call f os)) σ H Q) : tOs T W (dOs C os) σ H fun vs H1 => spOf T (C.fn f) vs H1 Q (WE W σ) := by
  obtain ⟨G, ρ, F, P, h⟩ := h
  simp only [dE] at h
  exact ⟨G, ρ, F, P, h.bind.imp (fun (as, o) h vs H1 ⟨G1, Fv, F1, E, t⟩ => runF_ok E t h) fun _ _ _ z => z⟩
end

/-- a def that the code calls by its name -/
structure Callee (X : Cx) (T : Tab) (fn : Fn) (x : Str) : Prop where
  ok : ∃ k a fd ps, FnOk X.prog X.w X.K X.mg X.base (L2.CX X.prog X.w) k a fd ps (spOf T fn) ∧ Room k X.A ∧ X.mg x = some (.ref a) ∧ PySem.W.keepIn X.K (.ref a) = true ∧ Binds X.K fd ps []
/-- a method of the class at c -/
structure CalleeM (X : Cx) (T : Tab) (fn : Fn) (c : Nat) (m : Str) : Prop where
  ok : ∃ k a fd ps, FnOk X.prog X.w X.K X.mg X.base (L2.CX X.prog X.w) k a fd ps (spOf T fn) ∧ Room k X.A ∧ Meth X.K (T.ca c) m a ∧ Binds X.K fd ps []
  no : ∀ f, f < T.nf → T.fnm f ≠ m
/-- a class that is made -/
structure Maker (X : Cx) (T : Tab) (fn : Fn) (c : Nat) (x : Str) : Prop where
  ok : ∃ k a fd ps, FnOk X.prog X.w X.K X.mg X.base (L2.CX X.prog X.w) k a fd ps (spOf T fn) ∧ Room (k + 1) X.A ∧ X.mg x = some (.ref (T.ca c)) ∧ Mk X.K (T.ca c) a ∧ Binds X.K fd ps []
section
variable {X : Cx} {T : Tab} {W : WX} {C : Cfg} {x m : Str} {f c : Nat} {os : Os} {eo e : Expr} {es : List Expr} {pos p apos : Pos}
theorem e_call (cf : Callee X T (C.fn f) x) (tk : L2.Takes X W) (hg : Gl X x) (hdb : (x == ("__debug__" : Str)) = false) (ha : PA X (e :: es) (tOs T W (dOs C os))) (pl : (e :: es).all plainE = true) : PE X (.Call (.Name x p) (e :: es) [] pos) (tE T W (dE C (.call f os))) := by
  obtain ⟨k, a, fd, ps, F, hr, hm, hk, hb⟩ := cf.ok
  rw [List.all_cons, Bool.and_eq_true] at pl
  refine (pe_callSD (E := WE W) F hr hg hm hk hb .nil (fun σ => L2.passAt tk σ) ha hdb (star_cons pl.1 es X.env) (star_any pl.2 X.env pos)).weak fun σ H Q h => ?_
  exact (call_den h).mono fun vs H1 z => by rw [List.append_nil]; exact z
theorem e_call0 (cf : Callee X T (C.fn f) x) (tk : L2.Takes X W) (hg : Gl X x) (hdb : (x == ("__debug__" : Str)) = false) : PE X (.Call (.Name x p) [] [] pos) (tE T W (dE C (.call f .nil))) := by
  obtain ⟨k, a, fd, ps, F, hr, hm, hk, hb⟩ := cf.ok
  refine ⟨fun pins s σ H Q I h => ?_⟩
  obtain ⟨G, ρ, F0, P, h⟩ := call_den h
  simp only [dOs] at h
  have h := h [] H ⟨G, [], F0, P.ev0, rfl, rfl⟩
  refine wpAny_Call_Name_kw (ld_glob I hg hm ?_ hdb)
  exact PySem.W.callWith_K0 I.kIn hk (run_fnSD (us := []) (E := WE W) F hr hb .nil (L2.passAt tk σ) I .nil h)
theorem lookup_no {ins : List Nat} {vs : List V} (h : ∀ f ∈ ins, T.fnm f ≠ m) : ((ins.map T.fnm).zip vs).lookup m = none := by
  induction ins generalizing vs with
  | nil => rfl
  | cons f r ih =>
    cases vs with
    | nil => rfl
    | cons v vs =>
      simp only [List.map_cons, List.zip_cons_cons, List.lookup_cons]
      rw [beq_eq_false_iff_ne.mpr (fun z => h f List.mem_cons_self z.symm)]
      exact ih fun g hg => h g (List.mem_cons_of_mem _ hg)
/-- a method's den -/
theorem meth_den {a : O} {σ : L2.St} {H : Hp} {Q : VK} (no : ∀ f, f < T.nf → T.fnm f ≠ m) (h : tE T W (dE C (.meth f c a os)) σ H Q) :
    tO T W (dO C a) σ H fun x H1 => ∃ q dx fs, x = .ref q ∧ H1 q = some (.ins (T.ca c) dx fs) ∧ fs.lookup m = none ∧ tOs T W (dOs C os) σ H1 fun vs H2 => spOf T (C.fn f) (x :: vs) H2 Q (WE W σ) := by
  obtain ⟨G, ρ, F, P, h⟩ := h
  simp only [dE] at h
  refine ⟨G, ρ, F, P, h.bind.imp (fun (x, o1) h v H1 ⟨G1, Fv, F1, E1, t1⟩ => ?_) fun _ _ _ z => z⟩
  simp only at h t1 E1
  cases er : x.rd (now ρ o1) with
  | none => simp only [er] at h; exact h.elim
  | some d =>
    obtain ⟨Fw, hw, Fd, rd⟩ := Tmp.read E1.pre t1 er
    cases d with
    | ins o c' fs ds =>
      simp only [er] at h
      cases ec : decide (c = c') with
      | false => simp only [ec] at h; exact h.elim
      | true =>
        simp only [ec] at h
        have ec := of_decide_eq_true ec
        subst ec
        obtain ⟨q, dx, vs, F', rfl, rl, len, nd, lt, ne, hq⟩ := rd
        have hq' : H1 q = some (.ins (T.ca c) dx ((fs.map T.fnm).zip vs)) := by
          cases o with
          | true => exact hq.1
          | false => exact lay_sub E1.pre.ex _ _ hq.1
        refine ⟨q, dx, _, rfl, hq', lookup_no fun f hf => no f (lt f hf), ?_⟩
        refine ⟨G1, now ρ o1, F1, E1.pre, (Post.bind h).imp (fun (as, o2) h us H2 ⟨G2, Fu, F2, E2, t2⟩ => ?_) (Xi.ev E1)⟩
        simp only at h
        cases fm : (x.firm || o2.isNone) with
        | false => simp only [fm] at h; exact h.elim
        | true =>
          simp only [fm] at h
          rw [now_now] at h
          have ta := E2.keepTmp t1 E1.apart fm
          rw [now_now] at ta t2
          exact runF_ok (E1.trans t1.trk E2) (show TmpL T G2 H2 _ σ (x :: as) (V.ref q :: us) (Fv ++ Fu) from ⟨V.ref q, us, Fv, Fu, rfl, rfl, ta, t2⟩) h
    | _ => simp only [er] at h; exact h.elim
theorem form_ok {es : List Expr} {env : PySem.Env} {pos : Pos} (h : es.all plainE = true) (l : es.length < 30) : methodCallForm (es.length + ([] : List Keyword).length) (backTo pos (starEach es env)) (backToKw pos (keywordEach [] env)) = true := by
  unfold methodCallForm
  rw [star_all h]
  show (true && decide (es.length + 0 + 0 < 30)) = true
  rw [Bool.true_and]
  exact decide_eq_true l
theorem mcall_ht {o : Expr} {m : Str} {es : List Expr} {env : PySem.Env} (hb : attributeBase o m env (eval o env) = eval o env) (pl : es.all plainE = true) (l : es.length < 30) (hl : (apos.endLine == pos.line) = true) :
    eval (.Call (.Attribute o m apos) es [] pos) env = (do
      let ov ← eval o env
      standAt apos.atName
      let (f, first) ← holding [ov] (getMethod ov m (plainOf o env))
      callWith pos f first (backTo pos (starEach es env)) (backToKw pos (keywordEach [] env))) := by
  rw [arm_eval_Call, hb]
  congr
  funext ov
  congr
  funext _
  exact mcall_line (form_ok pl l) hl
theorem e_meth {a : O} (co : ClsOk X T) (cf : CalleeM X T (C.fn f) c m) (tk : L2.Takes X W) (ho : PE X eo (tO T W (dO C a))) (ha : PA X (e :: es) (tOs T W (dOs C os))) (hb : attributeBase eo m X.env (eval eo X.env) = eval eo X.env) (pl : (e :: es).all plainE = true) (l : (e :: es).length < 30) (hl : (apos.endLine == pos.line) = true) :
    PE X (.Call (.Attribute eo m apos) (e :: es) [] pos) (tE T W (dE C (.meth f c a os))) := by
  obtain ⟨k, ad, fd, ps, F, hr, hm, hbd⟩ := cf.ok
  refine ⟨fun pins s σ H Q I h => ?_⟩
  refine PySem.W.methodCall_KW (pl := plainOf eo X.env) (thn (ho.run pins s σ H _ I (meth_den cf.no h)) fun u s1 ⟨x, H1, I1, rx, q, dx, fs, ex, ea, l, hq⟩ => ?_) (mcall_ht hb pl l hl)
  subst ex
  obtain rfl : u = Value.ref q := rx
  refine getmeth_ok I1 ea (co.cls c) hm l ?_
  rw [List.all_cons, Bool.and_eq_true] at pl
  refine PySem.W.callWith_K (first := [.ref q]) (h₀ := X.base) I.ok.mod.kin hm.kp (thn (ha.run pos pins s1 σ H1 _ I1 hq) fun us s2 ⟨vs, H2, I2, r, q2⟩ => ⟨I2.kIn, ?_⟩) (star_cons pl.1 es X.env) (star_any pl.2 X.env pos)
  exact run_fnSD (us := .ref q :: us) (vs := .ref q :: vs) (E := WE W) F hr hbd .nil (L2.passAt tk σ) I2 (.cons rfl r) (by rw [List.append_nil]; exact q2)
theorem e_meth0 {a : O} (co : ClsOk X T) (cf : CalleeM X T (C.fn f) c m) (tk : L2.Takes X W) (ho : PE X eo (tO T W (dO C a))) (hb : attributeBase eo m X.env (eval eo X.env) = eval eo X.env) (hl : (apos.endLine == pos.line) = true) :
    PE X (.Call (.Attribute eo m apos) [] [] pos) (tE T W (dE C (.meth f c a .nil))) := by
  obtain ⟨k, ad, fd, ps, F, hr, hm, hbd⟩ := cf.ok
  refine ⟨fun pins s σ H Q I h => ?_⟩
  refine PySem.W.methodCall_KW (pl := plainOf eo X.env) (thn (ho.run pins s σ H _ I (meth_den cf.no h)) fun u s1 ⟨x, H1, I1, rx, q, dx, fs, ex, ea, l, hq⟩ => ?_) (mcall_ht hb rfl (by decide) hl)
  subst ex
  obtain rfl : u = Value.ref q := rx
  refine getmeth_ok I1 ea (co.cls c) hm l ?_
  obtain ⟨G, ρ, F0, P, hq⟩ := hq
  simp only [dOs] at hq
  have hq := hq [] H1 ⟨G, [], F0, P.ev0, rfl, rfl⟩
  exact PySem.W.callWith_K0 (first := [.ref q]) I1.kIn hm.kp (run_fnSD (us := [.ref q]) (vs := [.ref q]) (E := WE W) F hr hbd .nil (L2.passAt tk σ) I1 (.cons rfl .nil) hq)
/-! ### new instances -/
/-- a new instance, at the slots -/
theorem run_mk {CX : CXT} {k : Nat} {C f : Addr} {fd : FuncData} {ps : List Str} {sp : Sp} {E : XK} {pins : List (Addr × Obj)} {σ : L2.St} {H : Hp} {s : Shared} {Q : VK} {us : List Value} {vs : List V} (M : Mk X.K C f) (F : FnOk X.prog X.w X.K X.mg X.base CX k f fd ps sp) (hr : Room (k + 1) X.A) (hb : Binds X.K fd ps [])
    (hx : ∀ H' s', L2.Inv X pins σ H' s' → ∀ e s'', CX X.stack H' s' E e s'' → X.xe e s'') (I : L2.Inv X pins σ H s) (r : Vals vs us)
    (h : ∀ x dx, H x = none → H dx = none → dx ≠ x → sp (.ref x :: vs) (upd (upd H dx (.own x)) x (.ins C dx [])) (fun v H2 => v = .non ∧ Q (.ref x) H2) E) :
    wpAny (model X.prog X.w) X.A (call (.ref C) us) (EP X pins σ Q) X.xe s := by
  have hq := h (s.heap.objs.size + 1) s.heap.objs.size (I.hok.fresh (Nat.le_succ _)) (I.hok.fresh (Nat.le_refl _)) (Nat.ne_of_lt (Nat.lt_succ_self _))
  have I2 := Inv.made (C := C) I
  have r2 : Vals (V.ref (s.heap.objs.size + 1) :: vs) (Value.ref (s.heap.objs.size + 1) :: us) := .cons rfl r
  have hl : ((Value.ref (s.heap.objs.size + 1) :: us) ++ []).length = ps.length := by
    rw [List.append_nil]
    have e := r2.length
    rw [F.len _ _ _ _ hq] at e
    exact e.symm
  have hbd := hb _ (Value.ref (s.heap.objs.size + 1) :: us) I2.kIn hl
  rw [List.append_nil] at hbd
  refine wpAny_call (make_map (f := f) I.kIn M.makes M.init (beq_iff_eq.mp M.fn) (codeAny_mono (F.run _ X.stack _ _ ⟨Value.ref (s.heap.objs.size + 1) :: us, []⟩ (Value.ref (s.heap.objs.size + 1) :: us) _ _ E (hr.make C us [])
    (I2.env0.make C us []) hbd r2 hq) fun r s' hq' => ?_))
  cases r with
  | error e => exact hx _ _ I2 e s' hq'
  | ok fl =>
    cases fl with
    | ret u =>
      obtain ⟨v, H', I3, rv, ev, q3⟩ := I2.after hq'
      subst ev
      exact ⟨rv, ⟨V.ref (s.heap.objs.size + 1), H', I3, rfl, q3⟩⟩
    | next => exact False.elim hq'
    | brk => exact False.elim hq'
    | cont => exact False.elim hq'
/-- what a new instance asks of its __init__ -/
theorem make_den {z : Bool} {σ : L2.St} {H : Hp} {Q : VK} (h : tE T W (dE C (.make f c z os)) σ H Q) :
    tOs T W (dOs C os) σ H fun vs H1 => ∀ x dx, H1 x = none → H1 dx = none → dx ≠ x → spOf T (C.fn f) (.ref x :: vs) (upd (upd H1 dx (.own x)) x (.ins (T.ca c) dx [])) (fun v H2 => v = .non ∧ Q (.ref x) H2) (WE W σ) := by
  obtain ⟨G, ρ, F, P, h⟩ := h
  simp only [dE] at h
  refine ⟨G, ρ, F, P, h.bind.imp (fun (as, o) h vs H1 ⟨G1, Fv, F1, E, t⟩ x dx hx hdx ne => ?_) fun _ _ _ z => z⟩
  simp only at h E t
  cases et : takeL as (now ρ o) with
  | none => simp only [et] at h; exact h.elim
  | some q =>
    obtain ⟨ds, bs, o1⟩ := q
    simp only [et] at h
    obtain ⟨Fd, F', s, re, rl, eo, ln⟩ := takeL_ok E.step.h E.env E.step.nd E.step.gn t.w et
    have S := E.step.trans s
    obtain ⟨n1, n2, n3⟩ := List.nodup_append.mp S.nd
    have hx1 : (upd H1 dx (.own x)) x = none := by rw [upd_ne (Ne.symm ne)]; exact hx
    -- the heap with the new instance
    have mk : Step G1 H1 [] G1 (upd (upd H1 dx (.own x)) x (.ins (T.ca c) dx [])) [x, dx] := by
      refine ⟨.refl _, (E.step.h.trans (.new hdx)).trans (.new hx1), fun a u e _ => Ext.new hx1 a u (Ext.new hdx a u e), fun a ha => ?_, fun _ _ q => .inl q, ?_, fun a ha => ?_⟩
      · rcases List.mem_cons.mp ha with e | ha
        · exact .inr (by rw [e]; exact hx)
        · exact .inr (by rw [List.mem_singleton.mp ha]; exact hdx)
      · exact List.nodup_cons.mpr ⟨fun z => ne (List.mem_singleton.mp z).symm, by simp⟩
      · rcases List.mem_cons.mp ha with e | ha
        · rw [e]; exact E.step.h.back hx
        · rw [List.mem_singleton.mp ha]; exact E.step.h.back hdx
    have rlk := RpL.trk _ _ _ rl
    have m1 := mk.more (R := Fd ++ F') (fun a ha => by
      rcases List.mem_append.mp ha with z | z
      · exact rlk a z
      · exact re.trk a z) (fun a ha => S.gn a ha) S.nd (fun _ _ z => nomatch z)
    rw [List.append_nil] at m1
    have S1 := S.trans m1
    have pm : ((Fd ++ F') ++ [x, dx]).Perm (F' ++ (x :: dx :: Fd)) := by
      have a1 : ((Fd ++ F') ++ [x, dx]).Perm ([x, dx] ++ (Fd ++ F')) := List.perm_append_comm
      refine a1.trans ?_
      rw [← List.append_assoc]
      exact List.perm_append_comm
    have S2 := S1.perm (.refl _) pm
    obtain ⟨k1, k2, k3⟩ := List.nodup_append.mp S2.nd
    have dj : ∀ a ∈ F', a ∉ x :: dx :: Fd := fun a ha hb => k3 a ha a hb rfl
    have keep1 : ∀ a, ∀ u, H1 a = some u → (upd (upd H1 dx (.own x)) x (.ins (T.ca c) dx [])) a = some u := fun a u e => Ext.new hx1 a u (Ext.new hdx a u e)
    have rI : Rp T G1 (upd (upd H1 dx (.own x)) x (.ins (T.ca c) dx [])) (.ins true c [] []) (.ref x) [x, dx] :=
      ⟨x, dx, [], [], rfl, ⟨rfl, rfl⟩, rfl, List.nodup_nil, (fun _ z => nomatch z), Ne.symm ne, by rw [upd_same]; rfl, by rw [upd_ne ne, upd_same], rfl⟩
    have rl1 : RpL T G1 (upd (upd H1 dx (.own x)) x (.ins (T.ca c) dx [])) (.ins true c [] [] :: ds) (.ref x :: vs) (x :: dx :: Fd) :=
      ⟨.ref x, vs, [x, dx], Fd, rfl, rfl, rI, RpL.mono (.refl _) ds vs Fd rl fun a _ u e => keep1 a u e⟩
    refine ⟨G1, _, _, m1.h, rl1, k2, fun a ha => S2.gn a (List.mem_append_right _ ha), ?_⟩
    cases ef : C.fn f (.ins true c [] [] :: ds) with
    | stuck => simp only [ef] at h; exact h.elim
    | exc c' y =>
      simp only [ef] at h ⊢
      intro H' dd G' w s' hd rx fx
      refine h H' dd ⟨G', F', ?_, ?_, w, hd, rx, fx⟩
      · have m := s'.more (R := F') (re.mono (.refl _) fun a _ u e => keep1 a u e).trk (fun a ha => S2.gn a (List.mem_append_left _ ha)) k1 dj
        rw [List.append_nil] at m
        exact S2.trans m
      · exact (re.mono (.refl _) fun a _ u e => keep1 a u e).mono s'.g fun a ha q e => s'.keep a q e (dj a ha)
    | ok d outs =>
      simp only [ef] at h ⊢
      cases d with
      | non =>
        cases outs with
        | nil => exact h.elim
        | cons y outs =>
          simp only at h
          intro v H' G' Fw Fo s' rd ro
          refine ⟨rd.non, ?_⟩
          have hFw : Fw = [] := rd.2
          subst hFw
          obtain ⟨v1, ws1, Fy, Fr, e1, rfl, ry, ro⟩ := ro
          cases e1
          have m := s'.more (R := F') (re.mono (.refl _) fun a _ u e => keep1 a u e).trk (fun a ha => S2.gn a (List.mem_append_left _ ha)) k1 dj
          have S3 := S2.trans m
          have re' : RpE T G' H' (now (now ρ o) o1) σ F' := (re.mono (.refl _) fun a _ u e => keep1 a u e).mono s'.g fun a ha q e => s'.keep a q e (dj a ha)
          rw [List.nil_append] at S3
          obtain ⟨q1, q2, q3⟩ := List.nodup_append.mp S3.nd
          obtain ⟨q4, q5, q6⟩ := List.nodup_append.mp q2
          have ndo : (Fr ++ F').Nodup := List.nodup_append.mpr ⟨q5, q1, fun a ha b hb e => q3 b hb a (List.mem_append_right _ ha) e.symm⟩
          obtain ⟨F3, j1, j2, re3⟩ := giveL_ok re' ndo ro ln
          have E4 : Ev T G H F ρ σ (given bs outs (now (now ρ o) o1) (orE o1 o)) G' H' Fy (if bs.any (·.isSome) = true then F3 else F') := by
            unfold given
            cases hb : bs.any (·.isSome) with
            | true =>
              simp only [if_true]
              refine ⟨S3.less (List.nodup_append.mpr ⟨q4, j1, fun a ha b hb => ?_⟩) fun a ha => ?_, re3, fun z => nomatch z⟩
              · rcases List.mem_append.mp (j2 b hb) with z | z
                · exact q6 a ha b z
                · exact fun e => q3 b z a (List.mem_append_left _ ha) e.symm
              · rcases List.mem_append.mp ha with z | z
                · exact List.mem_append_right _ (List.mem_append_left _ z)
                · rcases List.mem_append.mp (j2 a z) with z | z
                  · exact List.mem_append_right _ (List.mem_append_right _ z)
                  · exact List.mem_append_left _ z
            | false =>
              simp only [Bool.false_eq_true, if_false]
              refine ⟨S3.less (List.nodup_append.mpr ⟨q4, q1, fun a ha b hb e => q3 b hb a (List.mem_append_left _ ha) e.symm⟩) fun a ha => ?_, by rw [← now_now]; exact re', fun z => ?_⟩
              · rcases List.mem_append.mp ha with z | z
                · exact List.mem_append_right _ (List.mem_append_left _ z)
                · exact List.mem_append_left _ z
              · have e1 : o1 = none := by cases o1 with
                  | none => rfl
                  | some r => cases z
                subst e1
                have e2 : o = none := z
                obtain ⟨xh, ef'⟩ := E.calm e2
                have eF := eo rfl
                refine ⟨fun a q e => s'.keep a q (keep1 a q (xh a q e)) fun hd => ?_, eF.trans ef'⟩
                have nF : a ∉ F' := fun hb => dj a hb hd
                have a1 := xh a q e
                rcases List.mem_cons.mp hd with z | hd
                · rw [z, hx] at a1; cases a1
                rcases List.mem_cons.mp hd with z | hd
                · rw [z, hdx] at a1; cases a1
                rcases s.sub a (List.mem_append_left _ hd) with z | z
                · rcases List.mem_append.mp z with z | z
                  · rcases E.step.sub a (List.mem_append_left _ z) with z | z
                    · exact nF (by rw [eF, ef']; exact z)
                    · rw [e] at z; cases z
                  · exact nF (by rw [eF]; exact z)
                · rw [a1] at z; cases z
          cases z with
          | false => exact h (.ref x) H' ⟨G', Fy, _, E4, ry⟩
          | true =>
            simp only at h
            cases hz : fzable y with
            | false => simp only [hz] at h; exact h.elim
            | true =>
              simp only [hz] at h
              refine h (.ref x) H' ⟨_, [], _, E4.freeze (Fw := Fy) fun _ z => z, ?_⟩
              exact Rp.fz (lay_ext E4.step.h) y (.ref x) Fy hz ry lay_get
      | _ => exact h.elim
theorem e_make {z : Bool} (cf : Maker X T (C.fn f) c x) (tk : L2.Takes X W) (hg : Gl X x) (hdb : (x == ("__debug__" : Str)) = false) (ha : PA X (e :: es) (tOs T W (dOs C os))) (pl : (e :: es).all plainE = true) : PE X (.Call (.Name x p) (e :: es) [] pos) (tE T W (dE C (.make f c z os))) := by
  obtain ⟨k, ad, fd, ps, F, hr, hm, M, hb⟩ := cf.ok
  rw [List.all_cons, Bool.and_eq_true] at pl
  refine ⟨fun pins s σ H Q I h => ?_⟩
  refine wpAny_Call_Name_kw (ld_glob I hg hm ?_ hdb)
  refine PySem.W.callWith_K (h₀ := X.base) I.ok.mod.kin M.kp (thn (ha.run pos pins s σ H _ I (make_den h)) fun us s1 ⟨vs, H1, I1, r, q⟩ => ⟨I1.kIn, ?_⟩) (star_cons pl.1 es X.env) (star_any pl.2 X.env pos)
  exact run_mk M F hr hb (fun H' s' I' e s'' c => L2.passAt tk σ pins H' s' e s'' I' c) I1 r q
end
end Mp
/-! Changes in place. -/
namespace Mp
open PySem L2

section
variable {T : Tab} {W : WX} {G G' H H' : Hp} {ρ : Env} {σ : L2.St} {F : List Addr} {Q : VK}
theorem changeX {i : Nat} {π : List Nat} {c : D} {v : V} {Fx : List Addr} (re : RpE T G H ρ σ F) (nd : (Fx ++ F).Nodup) (gn : ∀ a ∈ Fx ++ F, G a = none) (e : getS ρ i π = some c) (va : VAt T H ρ σ i π v) :
    ∃ F1, Rp T G H c v F1 ∧ (Fx ++ F1).Nodup ∧ (∀ a ∈ Fx ++ F1, G a = none) ∧ ∀ {G' H' : Hp} {c' : D} {F1' Fv : List Addr}, Step G H (Fx ++ F1) G' H' (Fv ++ F1') → Rp T G' H' c' v F1' → ∃ F', Step G H (Fx ++ F) G' H' (Fv ++ F') ∧ RpE T G' H' (setS ρ i π c') σ F' := by
  obtain ⟨F1, R, pm, r, put⟩ := re.place e va
  have pmx : (Fx ++ F).Perm (R ++ (Fx ++ F1)) := by
    refine (pm.append_left Fx).trans ?_
    rw [← List.append_assoc]
    exact List.perm_append_comm
  have nd2 := pmx.nodup_iff.mp nd
  obtain ⟨n1, n2, n3⟩ := List.nodup_append.mp nd2
  have trk := re.trk
  have memR : ∀ a ∈ R, a ∈ F := fun a ha => pm.mem_iff.mpr (List.mem_append_right _ ha)
  have dj : ∀ a ∈ R, a ∉ Fx ++ F1 := fun a ha hb => n3 a ha a hb rfl
  refine ⟨F1, r, n2, fun a ha => gn a (pmx.mem_iff.mpr (List.mem_append_right _ ha)), fun {G' H' c' F1' Fv} s rc => ?_⟩
  obtain ⟨F', pm', re'⟩ := put s.g (fun a ha o q => s.keep a o q (dj a ha)) rc
  refine ⟨F', ?_, re'⟩
  refine (s.more (R := R) (fun a ha => trk a (memR a ha)) (fun a ha => gn a (List.mem_append_right _ (memR a ha))) n1 dj).perm pmx.symm ?_
  refine List.perm_append_comm.trans ?_
  rw [List.append_assoc]
  exact (pm'.symm).append_left Fv
/-- an owned object is written -/
theorem Step.write {p : Addr} {o0 o : HO} {F F2 : List Addr} (ex : Ext G H) (gn : ∀ a ∈ F, G a = none) (hp : H p = some o0) (hm : p ∈ F) (nd : F2.Nodup) (sub : ∀ a ∈ F2, a ∈ F) : Step G H F G (upd H p o) F2 :=
  ⟨.refl _, fun a u q => by
    have : a ≠ p := fun e => by rw [e, gn p hm] at q; cases q
    rw [upd_ne this]; exact ex a u q, fun a u q hn => by
    have : a ≠ p := fun e => hn (by rw [e]; exact hm)
    rw [upd_ne this]; exact q, fun a ha => .inl (sub a ha), fun _ _ q => .inl q, nd, fun a ha => gn a (sub a ha)⟩
theorem Rp.upd {d : D} {v : V} {F1 : List Addr} {p : Addr} {o : HO} (r : Rp T G H d v F1) (h : p ∉ F1) : Rp T G (upd H p o) d v F1 :=
  Rp.mono (.refl _) d v F1 r fun a ha u q => by rw [upd_ne (fun e => h (by rw [← e]; exact ha))]; exact q
theorem RpL.upd {d : List D} {v : List V} {F1 : List Addr} {p : Addr} {o : HO} (r : RpL T G H d v F1) (h : p ∉ F1) : RpL T G (upd H p o) d v F1 :=
  RpL.mono (.refl _) d v F1 r fun a ha u q => by rw [upd_ne (fun e => h (by rw [← e]; exact ha))]; exact q
theorem Ev.then {o : Option Env} {G1 H1 : Hp} {Fx F1 Fv F' : List Addr} {ρ' : Env} (E : Ev T G H F ρ σ o G1 H1 Fx F1) (s : Step G1 H1 (Fx ++ F1) G' H' (Fv ++ F')) (re : RpE T G' H' ρ' σ F') : Ev T G H F ρ σ (some ρ') G' H' Fv F' :=
  ⟨E.step.trans s, re, fun z => nomatch z⟩
/-- a method's rule serves its den -/
def BmOk (T : Tab) (m : Bm) (r : V → List V → Hp → VK → Prop) : Prop := ∀ (G H : Hp) (d d' y : D) (x : V) (xs : List D) (us : List V) (Fa F1 : List Addr) (Q : VK), Ext G H → Rp T G H d x F1 → RpL T G H xs us Fa → bmD m d xs = some (y, d') → (Fa ++ F1).Nodup → (∀ a ∈ Fa ++ F1, G a = none) →
  (∀ v G' H' Fv F1', Step G H (Fa ++ F1) G' H' (Fv ++ F1') → Rp T G' H' y v Fv → Rp T G' H' d' x F1' → Q v H') → r x us H Q
theorem bmTy_rp {d : D} {t : Bool} {v : V} {F1 : List Addr} (e : bmTy d = some t) (r : Rp T G H d v F1) : (t = true ∧ ∃ p vs, v = .ref p ∧ H p = some (.lst vs)) ∨ (t = false ∧ ∃ p kvs, v = .ref p ∧ H p = some (.dK kvs)) := by
  unfold bmTy at e
  split at e
  · cases e
    obtain ⟨p, vs, F', ev, hp, _⟩ := r
    exact .inl ⟨rfl, p, vs, ev, hp⟩
  · cases e
    obtain ⟨_, p, kvs, F', ev, _, _, _, _, hp, _⟩ := r
    exact .inr ⟨rfl, p, kvs, ev, hp⟩
  · cases e
/-- a method's den -/
theorem bm_den {C : Cfg} {m : Bm} {p : P} {es : Es} {r : V → List V → Hp → VK → Prop} (ok : BmOk T m r) (h : tE T W (dE C (.bm m p es)) σ H Q) :
    tO T W (dP C p) σ H fun x H1 => ((bmFor m = true ∧ ∃ q vs, x = .ref q ∧ H1 q = some (.lst vs)) ∨ (bmFor m = false ∧ ∃ q kvs, x = .ref q ∧ H1 q = some (.dK kvs))) ∧ tEs T W (dEs C es) σ H1 fun us H2 => r x us H2 Q := by
  obtain ⟨G, ρ, F, P, h⟩ := h
  simp only [dE] at h
  refine ⟨G, ρ, F, P, h.bind.imp (fun (a, o1) h v H1 ⟨G1, Fv, F1, E1, t1⟩ => ?_) fun _ _ _ z => z⟩
  simp only at h t1 E1
  cases a with
  | tm _ => exact h.elim
  | pl i π =>
    simp only at h
    obtain ⟨rfl, va⟩ := t1
    cases eg : getS (now ρ o1) i π with
    | none => simp only [eg, Option.bind_none] at h; exact h.elim
    | some d0 =>
      simp only [eg, Option.bind_some] at h
      cases et : bmTy d0 with
      | none => simp only [et] at h; exact h.elim
      | some t =>
        simp only [et] at h
        cases ed : decide (t = bmFor m) with
        | false => simp only [ed] at h; exact h.elim
        | true =>
          simp only [ed] at h
          have ed := of_decide_eq_true ed
          obtain ⟨F0, r0, _⟩ := E1.pre.change eg va
          refine ⟨?_, G1, now ρ o1, F1, E1.pre, (Post.bind h).imp (fun (xs, o2) h us H2 ⟨G2, Fa, F2, E2, t2⟩ => ?_) (Xi.ev E1)⟩
          · rw [← ed]; exact bmTy_rp et r0
          simp only at h t2 E2
          cases fm : ((OV.pl i π).firm || o2.isNone) with
          | false => simp only [fm] at h; exact h.elim
          | true =>
            simp only [fm] at h
            obtain ⟨_, va2⟩ := E2.keepTmp (a := .pl i π) (Fv := []) ⟨rfl, va⟩ (fun _ z => nomatch z) fm
            cases eg2 : getS (now (now ρ o1) o2) i π with
            | none => simp only [eg2] at h; exact h.elim
            | some d =>
              simp only [eg2] at h
              cases eb : bmD m d xs with
              | none => simp only [eb] at h; exact h.elim
              | some q =>
                obtain ⟨y, d'⟩ := q
                simp only [eb] at h
                have E := E1.trans (fun _ z => nomatch z) E2
                rw [List.nil_append] at E
                obtain ⟨F3, rd, nd3, gn3, put⟩ := changeX E2.env E.step.nd E.step.gn eg2 va2
                refine ok G2 H2 d d' y v xs us Fa F3 Q E2.step.h rd t2 eb nd3 gn3 fun w G' H' Fw F1' s ry rd' => ?_
                obtain ⟨F', s', re'⟩ := put s rd'
                exact h w H' ⟨G', Fw, F', E.then s' re', ry⟩
end
/-! ### the methods -/
section
variable {T : Tab}
theorem bm_append : BmOk T .append rAppend := by
  intro G H d d' y x xs us Fa F1 Q ex rd ra e nd gn k
  unfold bmD at e
  split at e <;> first | contradiction | cases e | skip
  · split at e
    · rename_i hl
      cases e
      obtain ⟨l, vs, F', rfl, hp, rl, ef⟩ := rd
      obtain ⟨u, ws, Fu, Fw, rfl, rfl, ru, ⟨rfl, rfl⟩⟩ := ra
      rw [List.append_nil] at nd gn k
      obtain ⟨n1, n2, n3⟩ := List.nodup_append.mp nd
      have hlF : l ∈ F1 := by rw [ef]; exact List.mem_cons_self
      have hnF : l ∉ F' := by rw [ef] at n2; exact (List.nodup_cons.mp n2).1
      have hnU : l ∉ Fu := fun z => n3 l z l hlF rfl
      refine ⟨l, vs, u, rfl, rfl, hp, by rw [rl.length, ← line_eq]; exact of_decide_eq_true hl, ?_⟩
      refine k .non G _ [] (l :: (F' ++ Fu)) (Step.write ex gn hp (List.mem_append_right _ hlF) ?_ ?_) ⟨rfl, rfl⟩ ⟨l, vs ++ [u], F' ++ Fu, rfl, upd_same, ?_, rfl⟩
      · rw [List.nil_append]
        rw [ef] at n2 n3
        refine List.nodup_cons.mpr ⟨fun z => (List.mem_append.mp z).elim hnF hnU, List.nodup_append.mpr ⟨(List.nodup_cons.mp n2).2, n1, fun a ha b hb e => n3 b hb a (List.mem_cons_of_mem _ ha) e.symm⟩⟩
      · intro a ha
        rw [List.nil_append] at ha
        rcases List.mem_cons.mp ha with z | z
        · rw [z]; exact List.mem_append_right _ hlF
        · rcases List.mem_append.mp z with z | z
          · exact List.mem_append_right _ (by rw [ef]; exact List.mem_cons_of_mem _ z)
          · exact List.mem_append_left _ z
      · exact RpL.append (rl.upd hnF) (.one (ru.upd hnU))
    · cases e
theorem RpL.last {G H : Hp} : ∀ {xs : List D} {vs : List V} {F : List Addr} {c : D}, RpL T G H xs vs F → xs[xs.length - 1]? = some c → ∃ v F1 F2, vs[vs.length - 1]? = some v ∧ F = F1 ++ F2 ∧ Rp T G H c v F2 ∧ RpL T G H xs.dropLast vs.dropLast F1
  | [], vs, F, c, h, e => by simp at e
  | [x], vs, F, c, h, e => by
    obtain ⟨v, ws, F1, F2, rfl, rfl, r, ⟨rfl, rfl⟩⟩ := h
    simp at e
    subst e
    exact ⟨v, [], F1, rfl, by simp, r, rfl, rfl⟩
  | x :: y :: xs, vs, F, c, h, e => by
    obtain ⟨v, ws, F1, F2, rfl, rfl, r, h⟩ := h
    have e' : (y :: xs)[(y :: xs).length - 1]? = some c := by simpa using e
    obtain ⟨w, A, B, ew, rfl, rc, rl⟩ := RpL.last h e'
    have hl := h.length
    refine ⟨w, F1 ++ A, B, ?_, by rw [List.append_assoc], rc, ?_⟩
    · cases ws with
      | nil => simp at hl
      | cons u ws => simpa using ew
    · cases ws with
      | nil => simp at hl
      | cons u ws => exact ⟨v, _, F1, A, rfl, rfl, r, rl⟩
theorem bm_pop0 : BmOk T .pop0 rPop := by
  intro G H d d' y x xs us Fa F1 Q ex rd ra e nd gn k
  unfold bmD at e
  split at e <;> first | contradiction | cases e | skip
  · split at e
    · rename_i c hc
      cases e
      obtain ⟨l, vs, F', rfl, hp, rl, ef⟩ := rd
      obtain ⟨rfl, rfl⟩ := ra
      rw [List.nil_append] at nd gn k
      obtain ⟨v, A, B, ev, rfl, rc, rl2⟩ := rl.last hc
      subst ef
      have hn := List.nodup_cons.mp nd
      obtain ⟨m1, m2, m3⟩ := List.nodup_append.mp hn.2
      refine ⟨l, vs, v, rfl, rfl, hp, ev, ?_⟩
      refine k v G _ B (l :: A) (Step.write ex gn hp List.mem_cons_self ?_ ?_) (rc.upd fun z => hn.1 (List.mem_append_right _ z)) ⟨l, vs.dropLast, A, rfl, upd_same, rl2.upd fun z => hn.1 (List.mem_append_left _ z), rfl⟩
      · refine List.nodup_append.mpr ⟨m2, List.nodup_cons.mpr ⟨fun z => hn.1 (List.mem_append_left _ z), m1⟩, fun a ha b hb e => ?_⟩
        rcases List.mem_cons.mp hb with z | z
        · exact hn.1 (by rw [← z, ← e]; exact List.mem_append_right _ ha)
        · exact m3 b z a ha e.symm
      · intro a ha
        rcases List.mem_append.mp ha with z | z
        · exact List.mem_cons_of_mem _ (List.mem_append_right _ z)
        · rcases List.mem_cons.mp z with z | z
          · rw [z]; exact List.mem_cons_self
          · exact List.mem_cons_of_mem _ (List.mem_append_left _ z)
    · cases e
theorem RpL.rev {G H : Hp} : ∀ {xs : List D} {vs : List V} {F : List Addr}, RpL T G H xs vs F → ∃ F', F'.Perm F ∧ RpL T G H xs.reverse vs.reverse F'
  | [], _, _, h => by
    obtain ⟨rfl, rfl⟩ := h
    exact ⟨[], .refl _, rfl, rfl⟩
  | x :: xs, _, _, h => by
    obtain ⟨v, ws, F1, F2, rfl, rfl, r, h⟩ := h
    obtain ⟨F', pm, h'⟩ := RpL.rev h
    refine ⟨F' ++ F1, (pm.append_right F1).trans List.perm_append_comm, ?_⟩
    rw [List.reverse_cons, List.reverse_cons]
    exact RpL.append h' (.one r)
theorem bm_reverse : BmOk T .reverse rReverse := by
  intro G H d d' y x xs us Fa F1 Q ex rd ra e nd gn k
  unfold bmD at e
  split at e <;> first | contradiction | cases e | skip
  · obtain ⟨l, vs, F', rfl, hp, rl, ef⟩ := rd
    obtain ⟨rfl, rfl⟩ := ra
    rw [List.nil_append] at nd gn k
    subst ef
    have hn := List.nodup_cons.mp nd
    obtain ⟨F2, pm, rl2⟩ := RpL.rev rl
    have hn2 : l ∉ F2 := fun z => hn.1 (pm.mem_iff.mp z)
    refine ⟨l, vs, rfl, rfl, hp, ?_⟩
    refine k .non G _ [] (l :: F2) (Step.write ex gn hp List.mem_cons_self ?_ ?_) ⟨rfl, rfl⟩ ⟨l, vs.reverse, F2, rfl, upd_same, rl2.upd hn2, rfl⟩
    · exact List.nodup_cons.mpr ⟨hn2, pm.nodup_iff.mpr hn.2⟩
    · intro a ha
      rcases List.mem_cons.mp ha with z | z
      · rw [z]; exact List.mem_cons_self
      · exact List.mem_cons_of_mem _ (pm.mem_iff.mp z)
theorem bm_clear : BmOk T .clear rClear := by
  intro G H d d' y x xs us Fa F1 Q ex rd ra e nd gn k
  unfold bmD at e
  split at e <;> first | contradiction | cases e | skip
  · obtain ⟨l, vs, F', rfl, hp, rl, ef⟩ := rd
    obtain ⟨rfl, rfl⟩ := ra
    rw [List.nil_append] at nd gn k
    subst ef
    refine ⟨l, vs, rfl, rfl, hp, ?_⟩
    refine k .non G _ [] [l] (Step.write ex gn hp List.mem_cons_self (by simp) ?_) ⟨rfl, rfl⟩ ⟨l, [], [], rfl, upd_same, ⟨rfl, rfl⟩, rfl⟩
    intro a ha
    have ha : a ∈ [l] := ha
    rw [List.mem_singleton.mp ha]; exact List.mem_cons_self
end
section
variable {X : Cx} {T : Tab} {W : WX} {C : Cfg} {m : Bm} {p : P} {es : Es} {eo e : Expr} {ees : List Expr} {name : Str} {id : String} {apos pos : Pos} {r : V → List V → Hp → VK → Prop}
theorem e_bmL (ok : BmOk T m r) (hf : bmFor m = true) (slot : Slot "list" name id) (hty : typeOf (.builtin id) = pure (.type "method_descriptor")) (hm : MtR X id r) (ho : PE X eo (tO T W (dP C p))) (ha : PA X (e :: ees) (tEs T W (dEs C es)))
    (hb : attributeBase eo name X.env (eval eo X.env) = eval eo X.env) (pl : (e :: ees).all plainE = true) (l : (e :: ees).length < 30) (hl : (apos.endLine == pos.line) = true) : PE X (.Call (.Attribute eo name apos) (e :: ees) [] pos) (tE T W (dE C (.bm m p es))) := by
  have pl' := pl
  rw [List.all_cons, Bool.and_eq_true] at pl'
  refine (pe_bm PySem.F.plainAttrs_list slot hty hm ho ha hb (few_ok pl l) hl (star_cons pl'.1 ees X.env) (star_any pl'.2 X.env pos)).weak fun σ H Q h => ?_
  refine (bm_den ok h).mono fun v H1 ⟨z, q⟩ => ⟨?_, q⟩
  rcases z with ⟨_, q, vs, rfl, hq⟩ | ⟨z, _⟩
  · exact .inl ⟨rfl, vs, .inl (.inl hq)⟩
  · rw [hf] at z; cases z
theorem e_bmL0 (ok : BmOk T m r) (hf : bmFor m = true) (slot : Slot "list" name id) (hty : typeOf (.builtin id) = pure (.type "method_descriptor")) (hm : MtR X id r) (ho : PE X eo (tO T W (dP C p)))
    (hb : attributeBase eo name X.env (eval eo X.env) = eval eo X.env) (hl : (apos.endLine == pos.line) = true) : PE X (.Call (.Attribute eo name apos) [] [] pos) (tE T W (dE C (.bm m p .nil))) := by
  refine (pe_bm0 PySem.F.plainAttrs_list slot hty hm ho hb hl).weak fun σ H Q h => ?_
  refine (bm_den ok h).mono fun v H1 ⟨z, q⟩ => ⟨?_, ?_⟩
  · rcases z with ⟨_, q, vs, rfl, hq⟩ | ⟨z, _⟩
    · exact .inl ⟨rfl, vs, .inl (.inl hq)⟩
    · rw [hf] at z; cases z
  · obtain ⟨G, ρ, F, P, q⟩ := q
    simp only [dEs] at q
    exact q [] H1 ⟨G, [], F, P.ev0, rfl, rfl⟩
end
end Mp
/-! Statements: what they leave; names, returns, branches. -/
namespace Mp
open PySem L2

/-- the kept slots -/
def Kp (pr : Nat → Bool) (σ σ' : L2.St) : Prop := σ'.length = σ.length ∧ ∀ i, pr i = true → σ'[i]? = σ[i]?
theorem Kp.refl {pr : Nat → Bool} {σ : L2.St} : Kp pr σ σ := ⟨rfl, fun _ _ => rfl⟩
theorem Kp.trans {pr : Nat → Bool} {a b c : L2.St} (x : Kp pr a b) (y : Kp pr b c) : Kp pr a c := ⟨y.1.trans x.1, fun i h => (y.2 i h).trans (x.2 i h)⟩
theorem Kp.set {pr : Nat → Bool} {σ : L2.St} {i : Nat} {s : Option V} (h : pr i = false) : Kp pr σ (σ.set i s) := ⟨by simp, fun j hj => by
  rw [List.getElem?_set_ne]
  intro e
  rw [e, hj] at h
  cases h⟩
section
variable (T : Tab) (W : WX) (pr : Nat → Bool)
def OkS (G H : Hp) (F : List Addr) (σ : L2.St) (ρ' : Env) (σ' : L2.St) (H' : Hp) : Prop := ∃ G' F', Step G H F G' H' F' ∧ RpE T G' H' ρ' σ' F' ∧ Kp pr σ σ'
def OkR (G H : Hp) (F : List Addr) (σ : L2.St) (d : D) (ρ' : Env) (v : V) (σ' : L2.St) (H' : Hp) : Prop := ∃ G' Fv F', Step G H F G' H' (Fv ++ F') ∧ Rp T G' H' d v Fv ∧ RpE T G' H' ρ' σ' F' ∧ Kp pr σ σ'
def PostS (DD : Ends) (G H : Hp) (F : List Addr) (σ : L2.St) : SR → Prop
  | .nx ρ' => ∀ σ' H', OkS T pr G H F σ ρ' σ' H' → DD.nx σ' H'
  | .bk ρ' => ∀ σ' H', OkS T pr G H F σ ρ' σ' H' → DD.bk σ' H'
  | .ct ρ' => ∀ σ' H', OkS T pr G H F σ ρ' σ' H' → DD.ct σ' H'
  | .ret d ρ' => ∀ v σ' H', OkR T pr G H F σ d ρ' v σ' H' → DD.rt v H'
  | .exc c x ρ' => ∀ σ', Kp pr σ σ' → Xi T W G H F σ' c x ρ'
  | .stuck => False
def tS (den : Env → SR) : TS := fun DD σ H => ∃ G ρ F, Pre T G H ρ σ F ∧ PostS T W pr DD G H F σ (den ρ)
end
section
variable {T : Tab} {W : WX} {pr : Nat → Bool} {G G' H H' : Hp} {ρ : Env} {σ σ' : L2.St} {F F' : List Addr} {DD : Ends}
theorem Pre.okS (P : Pre T G H ρ σ F) : OkS T pr G H F σ ρ σ H := ⟨G, F, P.step0, P.env, .refl⟩
theorem OkS.after {ρ' : Env} {σ2 : L2.St} {H2 : Hp} (s : Step G H F G' H' F') (k : Kp pr σ σ') (h : OkS T pr G' H' F' σ' ρ' σ2 H2) : OkS T pr G H F σ ρ' σ2 H2 := by
  obtain ⟨G2, F2, s2, r, k2⟩ := h
  exact ⟨G2, F2, s.trans s2, r, k.trans k2⟩
theorem PostS.mono {r : SR} (s : Step G H F G' H' F') (k : Kp pr σ σ') (h : PostS T W pr DD G H F σ r) : PostS T W pr DD G' H' F' σ' r := by
  cases r with
  | nx ρ' => exact fun σ2 H2 q => h σ2 H2 (q.after s k)
  | bk ρ' => exact fun σ2 H2 q => h σ2 H2 (q.after s k)
  | ct ρ' => exact fun σ2 H2 q => h σ2 H2 (q.after s k)
  | ret d ρ' =>
    intro v σ2 H2 ⟨G2, Fv, F2, s2, r, re, k2⟩
    exact h v σ2 H2 ⟨G2, Fv, F2, s.trans s2, r, re, k.trans k2⟩
  | exc c x ρ' =>
    intro σ2 k2
    exact Xi.mono s c x ρ' (h σ2 (k.trans k2))
  | stuck => exact h
/-- an expression within a statement -/
theorem PostS.then {α : Type} {r : R α} {f : α → SR} (h : PostS T W pr DD G H F σ (r.then f)) : Post r (fun a => PostS T W pr DD G H F σ (f a)) (Xi T W G H F σ) := by
  cases r with
  | ok a => exact h
  | exc c x ρ => exact h σ .refl
  | stuck => exact h
theorem Ev.okS {o : Option Env} {Fv F1 : List Addr} {G1 H1 : Hp} (E : Ev T G H F ρ σ o G1 H1 Fv F1) : OkS T pr G H F σ (now ρ o) σ H1 := ⟨G1, F1, E.nil.step, E.env, .refl⟩
/-! ### targets -/
def tG (T : Tab) (pr : Nat → Bool) (tg : Tg) : TG := fun v σ H Q => ∃ G ρ F d Fv ρ', Ext G H ∧ RpE T G H ρ σ F ∧ (Fv ++ F).Nodup ∧ Rp T G H d v Fv ∧ bindT tg d ρ = some ρ' ∧ ∀ σ' F', RpE T G H ρ' σ' F' → F'.Nodup → (∀ a ∈ F', a ∈ Fv ++ F) → Kp pr σ σ' → Q σ' H
def tGs (T : Tab) (pr : Nat → Bool) (ts : Tgs) : TGs := fun vs σ H Q => ∃ G ρ F ds Fv ρ', Ext G H ∧ RpE T G H ρ σ F ∧ (Fv ++ F).Nodup ∧ RpL T G H ds vs Fv ∧ bindT.bindTs ts ds ρ = some ρ' ∧ ∀ σ' F', RpE T G H ρ' σ' F' → F'.Nodup → (∀ a ∈ F', a ∈ Fv ++ F) → Kp pr σ σ' → Q σ' H
theorem RpE.store {i : Nat} {d : D} {v : V} {F1 : List Addr} (re : RpE T G H ρ σ F) (nd : (F1 ++ F).Nodup) (r : Rp T G H d v F1) : ∃ F', F'.Nodup ∧ (∀ a ∈ F', a ∈ F1 ++ F) ∧ RpE T G H (ρ.set i d) (σ.set i (some v)) F' := by
  obtain ⟨n1, n2, n3⟩ := List.nodup_append.mp nd
  by_cases hi : i < ρ.length
  · obtain ⟨s, A, R, es, pm, rs, put⟩ := re.focus hi
    obtain ⟨F', pm', re'⟩ := put (.refl _) (fun a ha o q => q) (.inr ⟨v, rfl, r⟩)
    have nR := (List.nodup_append.mp (pm.nodup_iff.mp n2)).2.1
    have sub : ∀ a ∈ R, a ∈ F := fun a ha => pm.mem_iff.mpr (List.mem_append_right _ ha)
    refine ⟨F', pm'.nodup_iff.mpr (List.nodup_append.mpr ⟨n1, nR, fun a ha b hb => n3 a ha b (sub b hb)⟩), fun a ha => ?_, re'⟩
    rcases List.mem_append.mp (pm'.mem_iff.mp ha) with z | z
    · exact List.mem_append_left _ z
    · exact List.mem_append_right _ (sub a z)
  · rw [List.set_eq_of_length_le (by omega), List.set_eq_of_length_le (by rw [re.length]; omega)]
    exact ⟨F, n2, fun a ha => List.mem_append_right _ ha, re⟩
end
theorem asg_each : ∀ {es : List Expr} (h : es.all plainE = true) (env : PySem.Env), (assignEach es env).length = es.length ∧ (assignEach es env).findIdx? (·.1) = none
  | [], _, _ => ⟨rfl, rfl⟩
  | e :: es, h, env => by
    rw [List.all_cons, Bool.and_eq_true] at h
    obtain ⟨h1, h2⟩ := asg_each h.2 env
    have e1 : assignEach (e :: es) env = (false, assign e env) :: assignEach es env := by
      have h1 := h.1
      cases e <;> first | rfl | cases h1
    rw [e1]
    refine ⟨by simp only [List.length_cons, h1], ?_⟩
    rw [List.findIdx?_cons]
    simp only [Bool.false_eq_true, if_false, h2]
    rfl
theorem asg_cons {e : Expr} (h : plainE e = true) (es : List Expr) (env : PySem.Env) : (assignEach (e :: es) env).map (·.2) = assign e env :: (assignEach es env).map (·.2) := by
  cases e <;> first | rfl | cases h
section
variable {X : Cx} {T : Tab} {W : WX} {C : Cfg} {pr : Nat → Bool} {tg et : Expr} {ets : List Expr} {pos : Pos}
theorem g_var {i : Nat} (h : PG X et (gName i)) (hp : pr i = false) : PG X et (tG T pr (.var i)) := by
  refine ⟨fun pins s σ H v u Q I r ⟨G, ρ, F, d, Fv, ρ', ex, re, nd, rd, e, k⟩ => h.run pins s σ H v u Q I r ?_⟩
  unfold bindT at e
  cases e
  obtain ⟨F', n, sub, re'⟩ := RpE.store (i := i) re nd rd
  exact k _ F' re' n sub (.set hp)
theorem gs_nil : PGs X [] (tGs T pr .nil) := by
  refine ⟨fun pins s σ H vs us Q I r ⟨G, ρ, F, ds, Fv, ρ', ex, re, nd, rl, e, k⟩ => pgs_nil.run pins s σ H vs us Q I r ?_⟩
  cases ds with
  | nil =>
    cases e
    obtain ⟨rfl, rfl⟩ := rl
    exact ⟨rfl, k σ F re nd (fun a ha => ha) .refl⟩
  | cons d ds => cases e
theorem gs_cons {t : Tg} {ts : Tgs} (h1 : PG X et (tG T pr t)) (h2 : PGs X ets (tGs T pr ts)) (pl : plainE et = true) : PGs X (et :: ets) (tGs T pr (.cons t ts)) := by
  refine ⟨fun pins s σ H vs us Q I r ⟨G, ρ, F, ds, Fv, ρ', ex, re, nd, rl, e, k⟩ => (pgs_cons h1 h2 (asg_cons pl ets X.env)).run pins s σ H vs us Q I r ?_⟩
  cases ds with
  | nil => cases e
  | cons d ds =>
    have e : (match bindT t d ρ with | some ρ' => bindT.bindTs ts ds ρ' | none => none) = some ρ' := e
    cases e1 : bindT t d ρ with
    | none => rw [e1] at e; cases e
    | some ρ1 =>
      rw [e1] at e
      obtain ⟨v, ws, F1, F2, rfl, rfl, rd, rl⟩ := rl
      rw [List.append_assoc] at nd
      obtain ⟨n1, n2, n3⟩ := List.nodup_append.mp nd
      obtain ⟨m1, m2, m3⟩ := List.nodup_append.mp n2
      refine ⟨v, ws, rfl, G, ρ, F, d, F1, ρ1, ex, re, List.nodup_append.mpr ⟨n1, m2, fun a ha b hb => n3 a ha b (List.mem_append_right _ hb)⟩, rd, e1, fun σ1 F3 re1 nd1 sub1 k1 => ?_⟩
      refine ⟨G, ρ1, F3, ds, F2, ρ', ex, re1, List.nodup_append.mpr ⟨m1, nd1, fun a ha b hb => ?_⟩, rl, e, fun σ2 F4 re2 nd2 sub2 k2 => ?_⟩
      · rcases List.mem_append.mp (sub1 b hb) with z | z
        · exact fun e => n3 b z a (List.mem_append_left _ ha) e.symm
        · exact m3 a ha b z
      · refine k σ2 F4 re2 nd2 (fun a ha => ?_) (k1.trans k2)
        rw [List.append_assoc]
        rcases List.mem_append.mp (sub2 a ha) with z | z
        · exact List.mem_append_right _ (List.mem_append_left _ z)
        · rcases List.mem_append.mp (sub1 a z) with z | z
          · exact List.mem_append_left _ z
          · exact List.mem_append_right _ (List.mem_append_right _ z)
theorem bindTs_length : ∀ {ts : Tgs} {ds : List D} {ρ ρ' : Env}, bindT.bindTs ts ds ρ = some ρ' → ds.length = ts.len
  | .nil, [], _, _, _ => rfl
  | .nil, _ :: _, _, _, e => by cases e
  | .cons t ts, [], _, _, e => by cases e
  | .cons t ts, d :: ds, ρ, ρ', e => by
    have e : (match bindT t d ρ with | some ρ' => bindT.bindTs ts ds ρ' | none => none) = some ρ' := e
    cases e1 : bindT t d ρ with
    | none => rw [e1] at e; cases e
    | some ρ1 =>
      rw [e1] at e
      rw [List.length_cons, bindTs_length e]
      rfl
theorem g_tup {ts : Tgs} {k : Nat} (hK : X.K = T.K) (hc : X.calm = true) (h : PGs X ets (tGs T pr ts)) (pl : ets.all plainE = true) (hl : ets.length = ts.len) : PG X (.Tuple ets k pos) (tG T pr (.tup ts)) := by
  obtain ⟨a1, a2⟩ := asg_each pl X.env
  refine ⟨fun pins s σ H v u Q I r ⟨G, ρ, F, d, Fv, ρ', ex, re, nd, rd, e, k⟩ => (pg_tup hc h a1 a2).run pins s σ H v u Q I r ?_⟩
  unfold bindT at e
  split at e
  · rename_i xs
    obtain ⟨p, vs, rfl, hp, rl⟩ := rd.tup ex
    refine ⟨p, vs, rfl, by rw [hK]; exact hp, ?_, G, ρ, F, xs, Fv, ρ', ex, re, nd, rl, e, k⟩
    rw [rl.length, hl]
    exact bindTs_length e
  · cases e
/-! ### blocks, small statements -/
variable {st : Stmt} {rs : List Stmt} {ea : Expr}
theorem ss_nil : PSs X [] (tS T W pr (dSs C .nil)) := by
  refine pss_nil.weak fun DD σ H ⟨G, ρ, F, P, h⟩ => ?_
  simp only [dSs] at h
  exact h σ H P.okS
theorem ss_cons {s : S} {ss : Ss} (h1 : PS X st (tS T W pr (dS C s))) (h2 : PSs X rs (tS T W pr (dSs C ss))) : PSs X (st :: rs) (tS T W pr (dSs C (.cons s ss))) := by
  refine (pss_cons h1 h2).weak fun DD σ H ⟨G, ρ, F, P, h⟩ => ?_
  simp only [dSs] at h
  refine ⟨G, ρ, F, P, ?_⟩
  cases e : dS C s ρ with
  | nx ρ1 =>
    rw [e] at h
    have h : PostS T W pr DD G H F σ (dSs C ss ρ1) := h
    intro σ1 H1 ⟨G1, F1, s1, re, k⟩
    exact ⟨G1, ρ1, F1, ⟨s1.h, re, s1.nd, s1.gn⟩, h.mono s1 k⟩
  | _ => rw [e] at h; exact h
theorem s_ex {e : E} (h : PE X ea (tE T W (dE C e))) (hs : swapsWith ea none pos.line X.env = pure false) : PS X (.Expr ea pos) (tS T W pr (dS C (.ex e))) := by
  refine (ps_expr h hs).weak fun DD σ H ⟨G, ρ, F, P, h⟩ => ?_
  simp only [dS] at h
  exact ⟨G, ρ, F, P, h.then.imp (fun (d, o) h v H1 ⟨G1, Fv, F1, E, r⟩ => h σ H1 E.okS) fun _ _ _ z => z⟩
theorem s_doc {x j pos pos'} : PS X (.Expr (.Constant (.str x) j pos) pos') (tS T W pr (dS C .pass)) := by
  refine ps_doc.weak fun DD σ H ⟨G, ρ, F, P, h⟩ => ?_
  simp only [dS] at h
  exact h σ H P.okS
theorem s_pass : PS X (.Pass pos) (tS T W pr (dS C .pass)) := by
  refine ps_pass.weak fun DD σ H ⟨G, ρ, F, P, h⟩ => ?_
  simp only [dS] at h
  exact h σ H P.okS
theorem s_brk : PS X (.Break pos) (tS T W pr (dS C .brk)) := by
  refine ps_break.weak fun DD σ H ⟨G, ρ, F, P, h⟩ => ?_
  simp only [dS] at h
  exact h σ H P.okS
theorem s_cnt : PS X (.Continue pos) (tS T W pr (dS C .cnt)) := by
  refine ps_continue.weak fun DD σ H ⟨G, ρ, F, P, h⟩ => ?_
  simp only [dS] at h
  exact h σ H P.okS
theorem s_never : PS X st (tS T W pr (dS C .never)) := by
  refine ps_never.weak fun DD σ H ⟨G, ρ, F, P, h⟩ => ?_
  simp only [dS] at h
  exact h
theorem s_ret {e : E} (h : PE X ea (tE T W (dE C e))) : PS X (.Return (some ea) pos) (tS T W pr (dS C (.ret e))) := by
  refine (ps_ret h).weak fun DD σ H ⟨G, ρ, F, P, h⟩ => ?_
  simp only [dS] at h
  exact ⟨G, ρ, F, P, h.then.imp (fun (d, o) h v H1 ⟨G1, Fv, F1, E, r⟩ => h v σ H1 ⟨G1, Fv, F1, E.step, r, E.env, .refl⟩) fun _ _ _ z => z⟩
theorem s_retN : PS X (.Return none pos) (tS T W pr (dS C .retN)) := by
  refine ps_retN.weak fun DD σ H ⟨G, ρ, F, P, h⟩ => ?_
  simp only [dS] at h
  exact h .non σ H ⟨G, [], F, P.step0, ⟨rfl, rfl⟩, P.env, .refl⟩
theorem s_if {t : Mp.T} {a b : Ss} {sa sb : List Stmt} (ht : PT X ea (tB' T W (dT C t))) (ha : PSs X sa (tS T W pr (dSs C a))) (hb : PSs X sb (tS T W pr (dSs C b))) : PS X (.If ea sa sb pos) (tS T W pr (dS C (.iff t a b))) := by
  refine (ps_if ht ha hb).weak fun DD σ H ⟨G, ρ, F, P, h⟩ => ?_
  simp only [dS] at h
  refine ⟨G, ρ, F, P, h.then.imp (fun (k, o) h H1 ⟨G1, F1, E⟩ => ?_) fun _ _ _ z => z⟩
  cases k with
  | true =>
    refine cast (if_pos rfl).symm ?_
    exact ⟨G1, now ρ o, F1, E.pre, PostS.mono E.step .refl h⟩
  | false =>
    refine cast (if_neg Bool.false_ne_true).symm ?_
    exact ⟨G1, now ρ o, F1, E.pre, PostS.mono E.step .refl h⟩
theorem s_asg {t : Tg} {e : E} (he : PE X ea (tE T W (dE C e))) (hg : PG X et (tG T pr t)) (hs : swapsWithSole [et] ea pos.line X.env = pure false) (hw : swappedStores [et] ea X.env = pure none) (pl : plainE et = true) : PS X (.Assign [et] ea pos) (tS T W pr (dS C (.asg t e))) := by
  refine (ps_asg he hg hs hw (asg_cons pl [] X.env)).weak fun DD σ H ⟨G, ρ, F, P, h⟩ => ?_
  simp only [dS] at h
  refine ⟨G, ρ, F, P, h.then.imp (fun (d, o) h v H1 ⟨G1, Fv, F1, E, r⟩ => ?_) fun _ _ _ z => z⟩
  simp only at h
  cases eb : bindT t d (now ρ o) with
  | none => simp only [eb] at h; exact h.elim
  | some ρ' =>
    simp only [eb] at h
    exact ⟨G1, now ρ o, F1, d, Fv, ρ', E.step.h, E.env, E.step.nd, r, eb, fun σ' F' re nd sub k => h σ' H1 ⟨G1, F', E.step.less nd sub, re, k⟩⟩
end
end Mp
/-! Fields and items are stored; setdefault; list(range(..)). -/
namespace Mp
open PySem L2
def notSlice (e : Expr) : Bool := match e with
  | .Slice _ _ none _ => false
  | _ => true

section
variable {T : Tab} {G H : Hp}
theorem RpL.setAt : ∀ {xs : List D} {vs : List V} {F : List Addr} {n : Nat} {x : D} {u : V} {Fx : List Addr}, RpL T G H xs vs F → Rp T G H x u Fx → (Fx ++ F).Nodup → ∃ F2, F2.Nodup ∧ (∀ a ∈ F2, a ∈ Fx ++ F) ∧ RpL T G H (xs.set n x) (vs.set n u) F2
  | [], vs, F, n, x, u, Fx, h, r, nd => by
    obtain ⟨rfl, rfl⟩ := h
    exact ⟨[], List.nodup_nil, (fun _ z => nomatch z), rfl, rfl⟩
  | y :: xs, vs, F, 0, x, u, Fx, h, r, nd => by
    obtain ⟨v, ws, F1, F2, rfl, rfl, r1, r2⟩ := h
    refine ⟨Fx ++ F2, ?_, ?_, u, ws, Fx, F2, rfl, rfl, r, r2⟩
    · exact nd.sublist ((List.sublist_append_right F1 F2).append_left Fx)
    · intro a ha
      rcases List.mem_append.mp ha with z | z
      · exact List.mem_append_left _ z
      · exact List.mem_append_right _ (List.mem_append_right _ z)
  | y :: xs, vs, F, n + 1, x, u, Fx, h, r, nd => by
    obtain ⟨v, ws, F1, F2, rfl, rfl, r1, r2⟩ := h
    obtain ⟨n1, n2, n3⟩ := List.nodup_append.mp nd
    obtain ⟨m1, m2, m3⟩ := List.nodup_append.mp n2
    obtain ⟨F3, a1, a2, a3⟩ := RpL.setAt (n := n) r2 r (List.nodup_append.mpr ⟨n1, m2, fun a ha b hb => n3 a ha b (List.mem_append_right _ hb)⟩)
    refine ⟨F1 ++ F3, List.nodup_append.mpr ⟨m1, a1, fun a ha b hb => ?_⟩, fun a ha => ?_, v, _, F1, F3, rfl, rfl, r1, a3⟩
    · rcases List.mem_append.mp (a2 b hb) with z | z
      · exact fun e => n3 b z a (List.mem_append_left _ ha) e.symm
      · exact m3 a ha b z
    · rcases List.mem_append.mp ha with z | z
      · exact List.mem_append_right _ (List.mem_append_left _ z)
      · rcases List.mem_append.mp (a2 a z) with z | z
        · exact List.mem_append_left _ z
        · exact List.mem_append_right _ (List.mem_append_right _ z)
theorem putF_zip {f : Nat} (hf : f < T.nf) {u : V} : ∀ {fs : List Nat} {vs : List V}, (∀ g ∈ fs, g < T.nf) → vs.length = fs.length →
    L2.putF (T.fnm f) u ((fs.map T.fnm).zip vs) = match fldN f fs with
      | some n => (fs.map T.fnm).zip (vs.set n u)
      | none => ((fs ++ [f]).map T.fnm).zip (vs ++ [u])
  | [], [], _, _ => rfl
  | [], v :: vs, _, e => by simp at e
  | g :: fs, [], _, e => by simp at e
  | g :: fs, v :: vs, lt, e => by
    unfold fldN
    simp only [List.map_cons, List.zip_cons_cons, L2.putF]
    by_cases h : g = f
    · subst h
      simp
    · have ne : ¬ T.fnm g = T.fnm f := fun z => h (T.inj g f (lt g List.mem_cons_self) hf z)
      rw [if_neg ne, if_neg h, putF_zip hf (fun a ha => lt a (List.mem_cons_of_mem _ ha)) (by simpa using e)]
      cases fldN f fs with
      | none => rfl
      | some n => rfl
theorem fldN_lt {f : Nat} : ∀ {fs : List Nat} {n : Nat}, fldN f fs = some n → n < fs.length
  | [], n, e => by cases e
  | g :: r, n, e => by
    unfold fldN at e
    split at e
    · cases e; exact Nat.succ_pos _
    · cases q : fldN f r with
      | none => rw [q] at e; cases e
      | some m => rw [q] at e; cases e; exact Nat.succ_lt_succ (fldN_lt q)
theorem fldN_none {f : Nat} : ∀ {fs : List Nat}, fldN f fs = none → f ∉ fs
  | [], _, z => nomatch z
  | g :: r, e, z => by
    unfold fldN at e
    split at e
    · cases e
    · rename_i h
      cases q : fldN f r with
      | some m => rw [q] at e; cases e
      | none =>
        rcases List.mem_cons.mp z with z | z
        · exact h z.symm
        · exact fldN_none q z
/-- a field is written -/
theorem putF_ok {f : Nat} (hf : f < T.nf) {d d' x : D} {v u : V} {F1 Fx : List Addr} (ex : Ext G H) (gn : ∀ a ∈ Fx ++ F1, G a = none) (rd : Rp T G H d v F1) (rx : Rp T G H x u Fx) (nd : (Fx ++ F1).Nodup) (e : Mp.putF d f x = some d') :
    ∃ a c dx fs, v = .ref a ∧ H a = some (.ins (T.ca c) dx fs) ∧ fs.length < 1000 ∧ ∃ F1', Step G H (Fx ++ F1) G (upd H a (.ins (T.ca c) dx (L2.putF (T.fnm f) u fs))) F1' ∧ Rp T G (upd H a (.ins (T.ca c) dx (L2.putF (T.fnm f) u fs))) d' v F1' := by
  unfold Mp.putF at e
  split at e
  · rename_i c fs ds
    obtain ⟨p, dx, vs, F', rfl, rl, len, ndf, lt, ne, hp, hdx, ef⟩ := rd
    have hl := rl.length
    have zl : ((fs.map T.fnm).zip vs).length = fs.length := by rw [List.length_zip, List.length_map, hl, ← len, Nat.min_self]
    have hpm : p ∈ Fx ++ F1 := List.mem_append_right _ (by rw [ef]; exact List.mem_cons_self)
    subst ef
    obtain ⟨n1, n2, n3⟩ := List.nodup_append.mp nd
    obtain ⟨k1, k2⟩ := List.nodup_cons.mp n2
    obtain ⟨k3, k4⟩ := List.nodup_cons.mp k2
    have npF : p ∉ F' := fun z => k1 (List.mem_cons_of_mem _ z)
    have npX : p ∉ Fx := fun z => n3 p z p List.mem_cons_self rfl
    have ndX : dx ∉ Fx := fun z => n3 dx z dx (List.mem_cons_of_mem _ List.mem_cons_self) rfl
    have hz := putF_zip hf (u := u) (fs := fs) (vs := vs) lt (by rw [hl, len])
    cases en : fldN f fs with
    | some n =>
      rw [en] at e
      simp only at e
      split at e
      · rename_i h9
        have h9 := of_decide_eq_true h9
        cases e
        rw [en] at hz
        simp only at hz
        have nd4 : (Fx ++ F').Nodup := List.nodup_append.mpr ⟨n1, k4, fun a ha b hb => n3 a ha b (List.mem_cons_of_mem _ (List.mem_cons_of_mem _ hb))⟩
        obtain ⟨F2, a1, a2, rl2⟩ := RpL.setAt (n := n) rl rx nd4
        have npF2 : p ∉ F2 := fun z => (List.mem_append.mp (a2 p z)).elim npX npF
        have ndF2 : dx ∉ F2 := fun z => (List.mem_append.mp (a2 dx z)).elim ndX k3
        refine ⟨p, c, dx, _, rfl, hp, by rw [zl]; omega, p :: dx :: F2, ?_, ?_⟩
        · refine Step.write ex gn hp hpm ?_ ?_
          · refine List.nodup_cons.mpr ⟨fun z => ?_, List.nodup_cons.mpr ⟨ndF2, a1⟩⟩
            rcases List.mem_cons.mp z with z | z
            · exact ne z
            · exact npF2 z
          · intro a ha
            rcases List.mem_cons.mp ha with z | ha
            · exact List.mem_append_right _ (by rw [z]; exact List.mem_cons_self)
            rcases List.mem_cons.mp ha with z | ha
            · exact List.mem_append_right _ (by rw [z]; exact List.mem_cons_of_mem _ List.mem_cons_self)
            rcases List.mem_append.mp (a2 a ha) with z | z
            · exact List.mem_append_left _ z
            · exact List.mem_append_right _ (List.mem_cons_of_mem _ (List.mem_cons_of_mem _ z))
        · refine ⟨p, dx, vs.set n u, F2, rfl, rl2.upd npF2, by simp [len], ndf, lt, ne, ?_, ?_, rfl⟩
          · rw [upd_same, hz]
          · rw [upd_ne (Ne.symm ne)]; exact hdx
      · cases e
    | none =>
      rw [en] at e
      simp only at e
      split at e
      · rename_i h9
        have h9 := of_decide_eq_true h9
        cases e
        rw [en] at hz
        simp only at hz
        refine ⟨p, c, dx, _, rfl, hp, by rw [zl]; omega, p :: dx :: (F' ++ Fx), ?_, ?_⟩
        · refine Step.write ex gn hp hpm ?_ ?_
          · refine List.nodup_cons.mpr ⟨fun z => ?_, List.nodup_cons.mpr ⟨fun z => (List.mem_append.mp z).elim k3 ndX, List.nodup_append.mpr ⟨k4, n1, fun a ha b hb e => n3 b hb a (List.mem_cons_of_mem _ (List.mem_cons_of_mem _ ha)) e.symm⟩⟩⟩
            rcases List.mem_cons.mp z with z | z
            · exact ne z
            · exact (List.mem_append.mp z).elim npF npX
          · intro a ha
            rcases List.mem_cons.mp ha with z | ha
            · exact List.mem_append_right _ (by rw [z]; exact List.mem_cons_self)
            rcases List.mem_cons.mp ha with z | ha
            · exact List.mem_append_right _ (by rw [z]; exact List.mem_cons_of_mem _ List.mem_cons_self)
            rcases List.mem_append.mp ha with z | z
            · exact List.mem_append_right _ (List.mem_cons_of_mem _ (List.mem_cons_of_mem _ z))
            · exact List.mem_append_left _ z
        · refine ⟨p, dx, vs ++ [u], F' ++ Fx, rfl, RpL.append (rl.upd npF) (.one (rx.upd npX)), by simp [len], ?_, ?_, ne, ?_, ?_, rfl⟩
          · exact List.nodup_append.mpr ⟨ndf, by simp, fun a ha b hb e => fldN_none en (by rw [← List.mem_singleton.mp hb, ← e]; exact ha)⟩
          · intro g hg
            rcases List.mem_append.mp hg with z | z
            · exact lt g z
            · rw [List.mem_singleton.mp z]; exact hf
          · rw [upd_same, hz]
          · rw [upd_ne (Ne.symm ne)]; exact hdx
      · cases e
  · cases e
theorem keys_mem {k : Key} {kvs : List (Key × V)} (h : valV kvs k = none) : k ∉ kvs.map (·.1) := fun z => by
  have := valV_any k kvs
  rw [h] at this
  obtain ⟨q, hq, e⟩ := List.mem_map.mp z
  have h2 : (kvs.any fun kv => decide (kv.1 = k)) = true := List.any_eq_true.mpr ⟨q, hq, decide_eq_true e⟩
  rw [this] at h2
  cases h2
/-- a dict's item is written -/
theorem putK_has {kvs : List (Key × V)} {k : Key} {n : Nat} {p : Key × V} {u : V} (nd : (kvs.map (·.1)).Nodup) (e : kvs[n]? = some p) (ek : p.1 = k) : putK kvs k u = kvs.set n (k, u) ∧ (kvs.set n (k, u)).map (fun q => keyD q.1) = kvs.map (fun q => keyD q.1) ∧ (kvs.set n (k, u)).map (·.1) = kvs.map (·.1) ∧ (kvs.set n (k, u)).map (·.2) = (kvs.map (·.2)).set n u := by
  obtain ⟨hn, e2⟩ := List.getElem?_eq_some_iff.mp e
  refine ⟨?_, ?_, ?_, ?_⟩
  · unfold putK
    have : (kvs.any fun kv => decide (kv.1 = k)) = true := List.any_eq_true.mpr ⟨p, List.mem_of_getElem? e, decide_eq_true ek⟩
    rw [if_pos this]
    refine List.ext_getElem? fun j => ?_
    rw [List.getElem?_map, List.getElem?_set]
    by_cases hj : n = j
    · subst hj
      rw [if_pos rfl, if_pos hn, e]
      simp [ek]
    · rw [if_neg hj]
      cases ej : kvs[j]? with
      | none => rfl
      | some q =>
        simp only [Option.map_some]
        rw [if_neg]
        intro z
        obtain ⟨hj2, e3⟩ := List.getElem?_eq_some_iff.mp ej
        have h1 : (kvs.map (·.1))[n]'(by simpa using hn) = k := by rw [List.getElem_map, e2]; exact ek
        have h2 : (kvs.map (·.1))[j]'(by simpa using hj2) = k := by rw [List.getElem_map, e3]; exact z
        exact hj ((List.getElem_inj nd).mp (h1.trans h2.symm))
  · refine List.ext_getElem? fun j => ?_
    rw [List.getElem?_map, List.getElem?_map, List.getElem?_set]
    by_cases hj : n = j
    · subst hj
      rw [if_pos rfl, if_pos hn, e]
      simp [ek]
    · rw [if_neg hj]
  · refine List.ext_getElem? fun j => ?_
    rw [List.getElem?_map, List.getElem?_map, List.getElem?_set]
    by_cases hj : n = j
    · subst hj
      rw [if_pos rfl, if_pos hn, e]
      simp [ek]
    · rw [if_neg hj]
  · rw [List.map_set]
/-- new entry -/
theorem dct_new {ks ds : List D} {p : Addr} {kvs : List (Key × V)} {F' Fx : List Addr} {x : D} {u : V} {k : Key} (ek : ks = kvs.map fun q => keyD q.1) (rl : RpL T G H ds (kvs.map (·.2)) F') (nd : (kvs.map (·.1)).Nodup) (hz : kvs.length < sizeLine) (hn : valV kvs k = none)
    (npF : p ∉ F') (npX : p ∉ Fx) (rx : Rp T G H x u Fx) : Rp T G (upd H p (.dK (putK kvs k u))) (.dct true true (ks ++ [keyD k]) (ds ++ [x])) (.ref p) (p :: (F' ++ Fx)) := by
  refine ⟨rfl, p, putK kvs k u, F' ++ Fx, rfl, ?_, ?_, ?_, ?_, upd_same, rfl⟩
  · rw [putK_new u hn, List.map_append, ek]; rfl
  · rw [putK_new u hn, List.map_append]
    exact RpL.append (rl.upd npF) (.one (rx.upd npX))
  · rw [putK_new u hn, List.map_append]
    exact List.nodup_append.mpr ⟨nd, by simp, fun a ha b hb e => keys_mem hn ((show b = k by simpa using hb) ▸ e ▸ ha)⟩
  · rw [putK_new u hn, List.length_append, List.length_singleton]
    omega
def rPut (T : Tab) : V → V → V → Hp → (Hp → Prop) → Prop := fun o i v H Q => ∃ G dx dk d' x Fx F1 Fk, Ext G H ∧ Rp T G H dx o F1 ∧ Rp T G H dk i Fk ∧ Rp T G H x v Fx ∧ (Fx ++ F1).Nodup ∧ (∀ a ∈ Fx ++ F1, G a = none) ∧ putD dx dk x = some d' ∧
  ∀ H' F1', Step G H (Fx ++ F1) G H' F1' → Rp T G H' d' o F1' → Q H'
end
section
variable {X : Cx} {T : Tab} {W : WX} {C : Cfg} {pr : Nat → Bool} {ea eo ei : Expr} {pos pos' : Pos}
theorem pset_any (hu : X.A.units + 1 < cLine) : PSet X (rPut T) := by
  intro pins s σ H o i u' ov iv u Q I ro ri rv ⟨G, dx, dk, d', x, Fx, F1, Fk, ex, qx, qk, qv, nd, gn, e, k⟩
  obtain ⟨n1, n2, n3⟩ := List.nodup_append.mp nd
  unfold putD at e
  split at e
  · split at e
    · split at e
      · rename_i n en
        cases e
        obtain ⟨p, vs, F', rfl, hp, rl, ef⟩ := qx
        cases qk.int
        subst ef
        obtain ⟨k1, k2⟩ := List.nodup_cons.mp n2
        have npX : p ∉ Fx := fun z => n3 p z p List.mem_cons_self rfl
        rw [← rl.length] at en
        obtain ⟨F2, a1, a2, rl2⟩ := RpL.setAt (n := n) rl qv (List.nodup_append.mpr ⟨n1, k2, fun a ha b hb => n3 a ha b (List.mem_cons_of_mem _ hb)⟩)
        have np2 : p ∉ F2 := fun z => (List.mem_append.mp (a2 p z)).elim npX k1
        refine set_list pins s σ H _ _ u' ov iv u Q I ro ri rv ⟨p, vs, _, n, rfl, rfl, hp, place_ixN en, k _ (p :: F2) (Step.write ex gn hp (List.mem_append_right _ List.mem_cons_self) (List.nodup_cons.mpr ⟨np2, a1⟩) fun a ha => ?_) ⟨p, _, F2, rfl, upd_same, rl2.upd np2, rfl⟩⟩
        rcases List.mem_cons.mp ha with z | z
        · rw [z]; exact List.mem_append_right _ List.mem_cons_self
        · rcases List.mem_append.mp (a2 a z) with z | z
          · exact List.mem_append_left _ z
          · exact List.mem_append_right _ (List.mem_cons_of_mem _ z)
      · cases e
    · cases e
  · rename_i b ks ds
    split at e
    · rename_i hk
      obtain ⟨eb, p, kvs, F', rfl, ek, rl, ndk, hz, hp, ef⟩ := qx
      subst eb
      obtain ⟨key, _, ed⟩ := keyOk_of hk
      subst ed
      have hx := qk.key
      subst hx
      subst ef
      obtain ⟨k1, k2⟩ := List.nodup_cons.mp n2
      have npX : p ∉ Fx := fun z => n3 p z p List.mem_cons_self rfl
      obtain rfl : ov = Value.ref p := ro
      have hpm : p ∈ Fx ++ (p :: F') := List.mem_append_right _ List.mem_cons_self
      rw [ek] at e
      rcases findD_key key kvs with ⟨e1, e2⟩ | ⟨n, q, e1, e2, e3, e4⟩
      · rw [e1] at e
        simp only at e
        split at e
        · rename_i hl
          have hl := of_decide_eq_true hl
          cases e
          rw [List.length_map, line_eq] at hl
          refine d_setItem hu I (.k hp hl) ri rv fun s' I' => ⟨_, I', k _ (p :: (F' ++ Fx)) (Step.write ex gn hp hpm ?_ ?_) (dct_new rfl rl ndk hl e2 k1 npX qv)⟩
          · exact List.nodup_cons.mpr ⟨fun z => (List.mem_append.mp z).elim k1 npX, List.nodup_append.mpr ⟨k2, n1, fun a ha b hb e => n3 b hb a (List.mem_cons_of_mem _ ha) e.symm⟩⟩
          · intro a ha
            rcases List.mem_cons.mp ha with z | z
            · rw [z]; exact hpm
            · rcases List.mem_append.mp z with z | z
              · exact List.mem_append_right _ (List.mem_cons_of_mem _ z)
              · exact List.mem_append_left _ z
        · cases e
      · rw [e1] at e
        simp only at e
        split at e
        · rename_i hl
          have hl := of_decide_eq_true hl
          cases e
          rw [List.length_map, line_eq] at hl
          obtain ⟨f1, f2, f3, f4⟩ := putK_has (u := u') ndk e2 e3
          obtain ⟨F2, a1, a2, rl2⟩ := RpL.setAt (n := n) rl qv (List.nodup_append.mpr ⟨n1, k2, fun a ha b hb => n3 a ha b (List.mem_cons_of_mem _ hb)⟩)
          have np2 : p ∉ F2 := fun z => (List.mem_append.mp (a2 p z)).elim npX k1
          refine d_setItem hu I (.k hp hl) ri rv fun s' I' => ⟨_, I', k _ (p :: F2) (Step.write ex gn hp hpm (List.nodup_cons.mpr ⟨np2, a1⟩) fun a ha => ?_) ⟨rfl, p, putK kvs key u', F2, rfl, ?_, ?_, ?_, ?_, upd_same, rfl⟩⟩
          · rcases List.mem_cons.mp ha with z | z
            · rw [z]; exact hpm
            · rcases List.mem_append.mp (a2 a z) with z | z
              · exact List.mem_append_left _ z
              · exact List.mem_append_right _ (List.mem_cons_of_mem _ z)
          · rw [f1, f2]
          · rw [f1, f4]; exact rl2.upd np2
          · rw [f1, f3]; exact ndk
          · rw [f1, List.length_set]; exact hz
        · cases e
    · cases e
  · cases e
theorem asg_sub {eo ei : Expr} {pos : Pos} (ix : notSlice ei = true) (env : PySem.Env) (v : Value) : assign (.Subscript eo ei pos) env v = (do
      let ov ← holding [v] (eval eo env)
      let iv ← holding [v, ov] (eval ei env)
      standAt pos
      holding [v, ov, iv] (setItem ov iv v)
      release [v, ov, iv] []) := by
  cases ei with
  | Slice a b c d => cases c with
    | none => cases ix
    | some c => rfl
  | _ => rfl
/-- p[k] = e -/
theorem s_six {p : P} {k e : E} (hu : X.A.units + 1 < cLine) (he : PE X ea (tE T W (dE C e))) (ho : PE X eo (tO T W (dP C p))) (hi : PE X ei (tE T W (dE C k))) (ix : notSlice ei = true)
    (hs : swapsWithSole [.Subscript eo ei pos'] ea pos.line X.env = pure false) (hw : swappedStores [.Subscript eo ei pos'] ea X.env = pure none) : PS X (.Assign [.Subscript eo ei pos'] ea pos) (tS T W pr (dS C (.six p k e))) := by
  have hg := pg_sub (pos := pos') ho hi (pset_any (T := T) hu) (fun v => asg_sub ix X.env v)
  refine (ps_asg he hg hs hw).weak fun DD σ H ⟨G, ρ, F, P, h⟩ => ?_
  simp only [dS] at h
  refine ⟨G, ρ, F, P, h.then.imp (fun (x, o) h v H1 ⟨G1, Fx, F1, E1, rx⟩ => ?_) fun _ _ _ z => z⟩
  refine ⟨G1, now ρ o, F1, E1.pre, (PostS.then h).imp (fun (a, o2) h u H2 ⟨G2, Fv, F2, E2, t2⟩ => ?_) (Xi.ev E1)⟩
  refine ⟨G2, now (now ρ o) o2, F2, E2.pre, (PostS.then h).imp (fun (y, o3) h w H3 ⟨G3, Fk, F3, E3, rk⟩ => ?_) fun c x r z => Xi.ev E2 c x r (Xi.ev E1 c x r z)⟩
  simp only at h t2 E2 E3
  cases fm : (a.firm || o3.isNone) with
  | false => simp only [fm] at h; exact h.elim
  | true =>
    simp only [fm] at h
    cases a with
    | tm _ => exact h.elim
    | pl i π =>
      simp only at h
      obtain ⟨rfl, va⟩ := E3.keepTmp t2 E2.apart fm
      -- the value, the place
      have E12 := E1.trans (Rp.trk _ _ _ rx) E2
      rw [List.append_nil] at E12
      have E12' : Ev T G H F ρ σ (orE o2 o) G2 H2 Fx F2 := E12
      have E3' : Ev T G2 H2 F2 (now ρ (orE o2 o)) σ o3 G3 H3 Fk F3 := by rw [← now_now]; exact E3
      have rx2 := E2.keepRp rx E1.apart
      have E13 := (E12'.trans (Rp.trk _ _ _ rx2) E3')
      have rx3 := E3'.keepRp rx2 E12'.apart
      have E4 := E13.drop (Fw := Fx) (List.nodup_append.mp (List.nodup_append.mp E13.step.nd).1).1 fun a ha => List.mem_append_left _ ha
      unfold storeI at h
      cases eg : getS (now (now (now ρ o) o2) o3) i π with
      | none => simp only [eg] at h; exact h.elim
      | some d =>
        simp only [eg] at h
        cases ep : putD d y x with
        | none => simp only [ep] at h; exact h.elim
        | some d' =>
          simp only [ep] at h
          obtain ⟨F5, rd, nd5, gn5, put⟩ := changeX E3.env E4.step.nd E4.step.gn eg va
          refine ⟨G3, d, y, d', x, Fx, F5, Fk, E3.step.h, rd, rk, rx3, nd5, gn5, ep, fun H' F1' s' rd' => ?_⟩
          obtain ⟨F', s2, re2⟩ := put (Fv := []) (F1' := F1') (by rw [List.nil_append]; exact s') rd'
          exact h σ H' ⟨G3, F', E4.step.trans (by rw [List.nil_append] at s2; exact s2), re2, .refl⟩
/-- p.f = e -/
theorem s_sfld {p : P} {f : Nat} {e : E} (co : ClsOk X T) (hf : f < T.nf) (he : PE X ea (tE T W (dE C e))) (ho : PE X eo (tO T W (dP C p)))
    (hs : swapsWith ea (some (.Attribute eo (T.fnm f) pos')) pos.line X.env = pure false) : PS X (.Assign [.Attribute eo (T.fnm f) pos'] ea pos) (tS T W pr (dS C (.sfld p f e))) := by
  refine (ps_fld ho he hs).weak fun DD σ H ⟨G, ρ, F, P, h⟩ => ?_
  simp only [dS] at h
  refine ⟨G, ρ, F, P, h.then.imp (fun (x, o) h v H1 ⟨G1, Fx, F1, E1, rx⟩ => ?_) fun _ _ _ z => z⟩
  refine ⟨G1, now ρ o, F1, E1.pre, (PostS.then h).imp (fun (a, o2) h u H2 ⟨G2, Fv, F2, E2, t2⟩ => ?_) (Xi.ev E1)⟩
  simp only at h t2 E2
  cases a with
  | tm _ => exact h.elim
  | pl i π =>
    simp only at h
    obtain ⟨rfl, va⟩ := t2
    have E12 := E1.trans (Rp.trk _ _ _ rx) E2
    rw [List.append_nil] at E12
    have rx2 := E2.keepRp rx E1.apart
    unfold storeF at h
    cases eg : getS (now (now ρ o) o2) i π with
    | none => simp only [eg] at h; exact h.elim
    | some d =>
      simp only [eg] at h
      cases ep : Mp.putF d f x with
      | none => simp only [ep] at h; exact h.elim
      | some d' =>
        simp only [ep] at h
        obtain ⟨F5, rd, nd5, gn5, put⟩ := changeX E2.env E12.step.nd E12.step.gn eg va
        obtain ⟨q, c, dx, fs, rfl, hq, hl, F1', s', rd'⟩ := putF_ok hf E2.step.h gn5 rd rx2 nd5 ep
        obtain ⟨F', s2, re2⟩ := put (Fv := []) (F1' := F1') (by rw [List.nil_append]; exact s') rd'
        exact ⟨q, _, dx, fs, rfl, hq, co.cls c, co.no c f hf, hl, h σ _ ⟨G2, F', E12.step.trans (by rw [List.nil_append] at s2; exact s2), re2, .refl⟩⟩
/-! ### setdefault -/
def rSetd : V → List V → Hp → VK → Prop := fun x us H Q => ∃ a kvs k z, x = .ref a ∧ us = [kV k, z] ∧ H a = some (.dK kvs) ∧ kvs.length < sizeLine ∧ (∀ v, valV kvs k = some v → Q v H) ∧ (valV kvs k = none → Q z (upd H a (.dK (putK kvs k z))))
theorem bm_setdef : BmOk T .setdef rSetd := by
  intro G H d d' y x xs us Fa F1 Q ex rd ra e nd gn k
  unfold bmD at e
  split at e <;> first | contradiction | cases e | skip
  · rename_i b ks ds dk dz
    split at e
    · rename_i hk
      obtain ⟨eb, p, kvs, F', rfl, ek, rl, ndk, hz, hp, ef⟩ := rd
      subst eb
      obtain ⟨key, _, ed⟩ := keyOk_of hk
      subst ed
      obtain ⟨u1, ws, Fk, Fw, rfl, rfl, r1, u2, ws2, Fz, Fw2, rfl, rfl, r2, ⟨rfl, rfl⟩⟩ := ra
      have hk2 := r1.key
      subst hk2
      have hFk : Fk = [] := by cases key <;> exact r1.2
      subst hFk
      rw [List.append_nil, List.nil_append] at nd gn k
      obtain ⟨n1, n2, n3⟩ := List.nodup_append.mp nd
      subst ef
      obtain ⟨k1, k2⟩ := List.nodup_cons.mp n2
      have npX : p ∉ Fz := fun z => n3 p z p List.mem_cons_self rfl
      have hpm : p ∈ Fz ++ (p :: F') := List.mem_append_right _ List.mem_cons_self
      subst ek
      rcases findD_key key kvs with ⟨e1, e2⟩ | ⟨n, q, e1, e2, e3, e4⟩
      · rw [e1] at e
        simp only at e
        split at e
        · rename_i hl
          have hl := of_decide_eq_true hl
          cases e
          rw [List.length_map, line_eq] at hl
          refine ⟨p, kvs, key, u2, rfl, rfl, hp, hl, (fun v hv => by rw [e2] at hv; cases hv), fun _ => ?_⟩
          refine k u2 G _ [] (p :: (F' ++ Fz)) (Step.write ex gn hp hpm ?_ ?_) (by simp only [Rp]) (dct_new rfl rl ndk hl e2 k1 npX r2)
          · rw [List.nil_append]
            exact List.nodup_cons.mpr ⟨fun z => (List.mem_append.mp z).elim k1 npX, List.nodup_append.mpr ⟨k2, n1, fun a ha b hb e => n3 b hb a (List.mem_cons_of_mem _ ha) e.symm⟩⟩
          · intro a ha
            rw [List.nil_append] at ha
            rcases List.mem_cons.mp ha with z | z
            · rw [z]; exact hpm
            · rcases List.mem_append.mp z with z | z
              · exact List.mem_append_right _ (List.mem_cons_of_mem _ z)
              · exact List.mem_append_left _ z
        · cases e
      · rw [e1] at e
        simp only at e
        split at e
        · rename_i hl
          have hl := of_decide_eq_true hl
          cases e
          rw [List.length_map, line_eq] at hl
          refine ⟨p, kvs, key, u2, rfl, rfl, hp, hl, fun v hv => ?_, fun hn => by rw [e4] at hn; cases hn⟩
          refine k v G H [] (p :: F') ⟨.refl _, ex, fun _ _ q _ => q, fun a ha => .inl (List.mem_append_right _ ha), fun _ _ q => .inl q, n2, fun a ha => gn a (List.mem_append_right _ ha)⟩ (by simp only [Rp]) ⟨rfl, p, kvs, F', rfl, rfl, rl, ndk, hz, hp, rfl⟩
        · cases e
    · cases e
theorem es2_den {a b : E} {σ : L2.St} {H : Hp} {Q : List V → Hp → Prop} (h : tEs T W (dEs C (.cons a (.cons b .nil))) σ H Q) : tE T W (dE C a) σ H fun v H1 => tE T W (dE C b) σ H1 fun u H2 => Q [v, u] H2 := by
  obtain ⟨G, ρ, F, P, h⟩ := h
  simp only [dEs] at h
  refine ⟨G, ρ, F, P, h.bind.imp (fun (x, o1) h v H1 ⟨G1, Fv, F1, E1, t1⟩ => ?_) fun _ _ _ z => z⟩
  refine ⟨G1, now ρ o1, F1, E1.pre, (Post.bind (Post.bind h)).imp (fun (y, o2) h u H2 ⟨G2, Fu, F2, E2, t2⟩ => ?_) (Xi.ev E1)⟩
  exact h [v, u] H2 ⟨G2, Fv ++ Fu, F2, E1.trans (Rp.trk _ _ _ t1) E2, v, [u], Fv, Fu, rfl, rfl, E2.keepRp t1 E1.apart, .one t2⟩
theorem e_setdef {p : P} {a b : E} {apos cpos : Pos} {e1 e2 : Expr} (ho : PE X eo (tO T W (dP C p))) (h1 : PE X e1 (tE T W (dE C a))) (h2 : PE X e2 (tE T W (dE C b))) (hb : attributeBase eo "setdefault" X.env (eval eo X.env) = eval eo X.env)
    (pl : [e1, e2].all plainE = true) (hl : (apos.endLine == cpos.line) = true) : PE X (.Call (.Attribute eo "setdefault" apos) [e1, e2] [] cpos) (tE T W (dE C (.bm .setdef p (.cons a (.cons b .nil))))) := by
  have p1 : plainE e1 = true ∧ plainE e2 = true := by simpa using pl
  refine (pe_dsetd ho h1 h2 ⟨hb, few_ok pl (show 2 < 30 by decide), hl, by rw [star_cons p1.1, star_cons p1.2]; rfl⟩).weak fun σ H Q h => ?_
  refine (bm_den bm_setdef h).mono fun v H1 ⟨z, q⟩ => ?_
  rcases z with ⟨z, _⟩ | ⟨_, l, kvs, rfl, hq⟩
  · cases z
  · refine ⟨l, rfl, .inl ⟨kvs, .inl hq⟩, (es2_den q).mono fun u H2 z => z.mono fun w H3 ⟨a', kvs', k, z', e1, e2, e3, e4, e5, e6⟩ => ?_⟩
    cases e1
    cases e2
    exact ⟨kvs', k, e3, rfl, e4, e5, e6⟩
/-! ### list(range(..)) -/
theorem RpL.rng {G H : Hp} : ∀ (n : Nat) (a : Int), RpL T G H (rngL a n) ((List.range n).map fun i => V.int (a + (i : Nat))) []
  | 0, a => ⟨rfl, rfl⟩
  | n + 1, a => by
    rw [List.range_succ_eq_map, List.map_cons, List.map_map]
    refine ⟨_, _, [], [], rfl, rfl, ⟨by simp, rfl⟩, ?_⟩
    have h := RpL.rng (G := G) (H := H) n (a + 1)
    refine cast (congrArg (fun vs => RpL T G H (rngL (a + 1) n) vs []) ?_) h
    refine List.map_congr_left fun i _ => ?_
    show V.int (a + 1 + (i : Int)) = V.int (a + ((i + 1 : Nat) : Int))
    congr 1
    omega
end
end Mp
/-! What is walked; for. -/
namespace Mp
open PySem L2

def lockOf : I → Option Nat
  | .lock i => some i
  | _ => none
def Held (A : Hp) (R : List Addr) (H : Hp) : Prop := ∀ a ∈ R, ∀ o, A a = some o → H a = some o
/-- an iterator that yields these data -/
structure Wk (T : Tab) (J : It) (ds : List D) (G A : Hp) (R : List Addr) : Prop where
  stop : ∀ H, Ext G H → Held A R H → J.stop ds.length H
  go : ∀ i H, Ext G H → Held A R H → i < ds.length → J.go i H
  yld : ∀ i Gc H x H' d, Ext G Gc → Ext Gc H → Held A R H → J.yld i H x H' → ds[i]? = some d → ∃ Gc', Step Gc H [] Gc' H' [] ∧ Rp T Gc' H' d x []
def OkI (T : Tab) (it : I) (G H : Hp) (F : List Addr) (ρ : Env) (σ : L2.St) (o : Option Env) (ds : List D) (J : It) (H1 : Hp) : Prop :=
  ∃ G1 F1 R F2, Ev T G H F ρ σ o G1 H1 [] F1 ∧ F1.Perm (R ++ F2) ∧ RpE T G1 H1 (lockI it (now ρ o)) σ F2 ∧ Wk T J ds G1 H1 R ∧
    ∀ G2 H2 ρ2 σ2 F3, RpE T G2 H2 ρ2 σ2 F3 → Ext G1 G2 → Held H1 R H2 → (R ++ F3).Nodup → (∀ i, lockOf it = some i → σ2[i]? = σ[i]?) → ∃ F4, F4.Nodup ∧ (∀ a ∈ F4, a ∈ R ++ F3) ∧ RpE T G2 H2 (unlockI it (now ρ o) ρ2) σ2 F4
def tI (T : Tab) (W : WX) (it : I) (den : Env → R (List D × Option Env)) : TI := fun σ H Q => ∃ G ρ F, Pre T G H ρ σ F ∧ Post (den ρ) (fun (ds, o) => ∀ J H1, OkI T it G H F ρ σ o ds J H1 → Q J H1) (Xi T W G H F σ)
section
variable {T : Tab} {W : WX} {G G' H H' A : Hp} {ρ : Env} {σ : L2.St} {F R : List Addr}
theorem idle_back {it : I} (e1 : ∀ ρ, lockI it ρ = ρ) (e2 : ∀ ρ ρ', unlockI it ρ ρ' = ρ') {o : Option Env} {ds : List D} {J : It} {G1 H1 : Hp} {F1 : List Addr} (E : Ev T G H F ρ σ o G1 H1 [] F1) (wk : Wk T J ds G1 H1 []) : OkI T it G H F ρ σ o ds J H1 :=
  ⟨G1, F1, [], F1, E, .refl _, by rw [e1]; exact E.env, wk, fun G2 H2 ρ2 σ2 F3 re _ _ nd _ => ⟨F3, nd, fun a ha => ha, by rw [e2]; exact re⟩⟩
theorem wk_list {K : PySem.W.Frag} {p : Addr} {ds : List D} {vs : List V} (h : ∀ H, Ext G H → Held A R H → SqL K H p vs) (rl : RpL T G G ds vs []) : Wk T (Itl K p) ds G A R := by
  have hl := rl.length
  refine ⟨fun H ex hd => ⟨vs, h H ex hd, by rw [hl]; exact Nat.le_refl _⟩, fun i H ex hd hi => ?_, fun i Gc H x H' d ex exc hd y e => ?_⟩
  · obtain ⟨w, ew⟩ := getElem?_someD (xs := vs) (n := i) (by rw [hl]; exact hi)
    exact ⟨vs, w, h H ex hd, ew⟩
  · obtain ⟨e1, y⟩ := y
    subst e1
    have ex2 := y vs (h _ (ex.trans exc) hd)
    obtain ⟨w, F1, ew, rw', _⟩ := rl.get e
    have rw' : Rp T G G d w [] := by
      obtain ⟨w2, ew2, r2⟩ := rl.shMem e
      rw [ew] at ew2
      cases ew2
      exact r2
    rw [ex2] at ew
    cases ew
    exact ⟨Gc, .idle exc, Rp.mono ex _ _ _ rw' (fun _ z => nomatch z)⟩
theorem wk_tup {K : PySem.W.Frag} {p : Addr} {ds : List D} {vs : List V} (h : ∀ H, Ext G H → Held A R H → SqT K H p vs) (rl : RpL T G G ds vs []) : Wk T (Itt K p) ds G A R := by
  have hl := rl.length
  refine ⟨fun H ex hd => ⟨vs, h H ex hd, by rw [hl]; exact Nat.le_refl _⟩, fun i H ex hd hi => ?_, fun i Gc H x H' d ex exc hd y e => ?_⟩
  · obtain ⟨w, ew⟩ := getElem?_someD (xs := vs) (n := i) (by rw [hl]; exact hi)
    exact ⟨vs, w, h H ex hd, ew⟩
  · obtain ⟨e1, y⟩ := y
    subst e1
    have ex2 := y vs (h _ (ex.trans exc) hd)
    obtain ⟨w2, ew2, r2⟩ := rl.shMem e
    rw [ex2] at ew2
    cases ew2
    exact ⟨Gc, .idle exc, Rp.mono ex _ _ _ r2 (fun _ z => nomatch z)⟩
theorem wk_rng (lo : Int) (n : Nat) : Wk T (Itr lo n) (rngL lo n) G A R := by
  have hl : ∀ (n : Nat) (lo : Int), (rngL lo n).length = n := by
    intro n
    induction n with
    | zero => intro lo; rfl
    | succ n ih => intro lo; simp only [rngL, List.length_cons, ih]
  have hg : ∀ (n : Nat) (lo : Int) (i : Nat) (d : D), (rngL lo n)[i]? = some d → d = .int (lo + i) := by
    intro n
    induction n with
    | zero => intro lo i d e; simp [rngL] at e
    | succ n ih =>
      intro lo i d e
      cases i with
      | zero => simp [rngL] at e; rw [← e]; simp
      | succ i =>
        simp only [rngL, List.getElem?_cons_succ] at e
        rw [ih _ _ _ e]
        congr 1
        omega
  refine ⟨fun H _ _ => by rw [hl]; exact Nat.le_refl _, fun i H _ _ hi => by rw [hl] at hi; exact hi, fun i Gc H x H' d ex exc hd y e => ?_⟩
  obtain ⟨e1, e2⟩ := y
  subst e1 e2
  rw [hg n lo i d e]
  exact ⟨Gc, .idle exc, rfl, rfl⟩
end
section
variable {X : Cx} {T : Tab} {W : WX} {C : Cfg} {ea eb tg : Expr} {pos p : Pos}
/-- a list or a tuple -/
theorem pi_any {l : Expr} {tl : TE} (hl : PE X l tl) : PI X tg l (fun σ H R => tl σ H fun x H1 => ∃ a, x = .ref a ∧ (((∃ xs, SqL X.K H1 a xs) ∧ R (Itl X.K a) H1) ∨ ((∃ xs, SqT X.K H1 a xs) ∧ R (Itt X.K a) H1))) := by
  refine ⟨fun pins s σ H R I h => ?_⟩
  refine thn (hl.run pins s σ H _ I h) fun v s1 ⟨x, H1, I1, r1, q1⟩ => ?_
  obtain ⟨a, e, q⟩ := q1
  subst e
  cases r1
  have fp : ∀ b ∈ [s1.heap.objs.size], FpOk X pins H1 b := fun b hb => by
    have e : b = s1.heap.objs.size := by simpa using hb
    subst e
    exact I1.fpOk (Nat.le_refl _) (I1.hok.fresh (Nat.le_refl _))
  rcases q with ⟨⟨xs, hq⟩, q⟩ | ⟨⟨xs, hq⟩, q⟩
  · obtain ⟨its, rv, p, hz⟩ := I1.list hq
    refine wpAny_pyIter_list p.isList ?_
    exact ⟨s1.heap.objs.size, [s1.heap.objs.size], _, _, H1, rfl, I1.kept (t' := s1.toks) fun b o e => Heap.get?_push_of_some _ e, turn_list a _, ⟨_, Heap.get?_push_size _ rfl, rfl, rfl⟩, fp, q⟩
  · obtain ⟨its, rv, p, hz⟩ := I1.tuple hq
    refine wpAny_pyIter_tuple (show s1.heap.IsTuple a its.toArray from p) ?_
    exact ⟨s1.heap.objs.size, [s1.heap.objs.size], _, _, H1, rfl, I1.kept (t' := s1.toks) fun b o e => Heap.get?_push_of_some _ e, turn_tuple a _, ⟨_, Heap.get?_push_size _ rfl, rfl, rfl⟩, fp, q⟩
theorem _root_.L2.PI.weak {X : Cx} {tg e : Expr} {t t' : TI} (h : PI X tg e t) (w : ∀ σ H Q, t' σ H Q → t σ H Q) : PI X tg e t' := ⟨fun pins s σ H Q I q => h.run pins s σ H Q I (w σ H Q q)⟩
/-- data kept as ground: a shared sequence -/
theorem keepO_ok {a : OV} {v : V} {o : Option Env} {G H G1 H1 : Hp} {F F1 Fv : List Addr} {ρ : Env} {σ : L2.St} {d : D} {o2 : Option Env} (E : Ev T G H F ρ σ o G1 H1 Fv F1) (t : Tmp T G1 H1 (now ρ o) σ a v Fv) (e : keepO ρ o a = .ok (d, o2)) : OkE T G H F ρ σ o2 d v H1 := by
  cases a with
  | tm x =>
    have e : (match soft x with | some d => R.ok (d, o) | none => .stuck) = R.ok (d, o2) := e
    cases es : soft x with
    | none => rw [es] at e; cases e
    | some y =>
      rw [es] at e
      cases e
      rcases soft_rp es t E.step.h with ⟨_, r⟩ | r
      · exact ⟨G1, Fv, F1, E, r⟩
      · exact ⟨_, [], F1, E.freeze (Fw := Fv) (fun _ z => z), r⟩
  | pl i π =>
    obtain ⟨rfl, va⟩ := t
    have e : ((keep (now ρ o) i π).bind fun (d, o2) => R.ok (d, orE o2 o)) = R.ok (d, o2) := e
    cases ek : keep (now ρ o) i π with
    | ok q =>
      obtain ⟨d', o'⟩ := q
      rw [ek] at e
      cases e
      exact (keep_ok E.pre va ek).after E
    | exc c x r => rw [ek] at e; cases e
    | stuck => rw [ek] at e; cases e
theorem keepO_exc {a : OV} {ρ : Env} {o : Option Env} {c : Nat} {x : D} {r : Env} : keepO ρ o a ≠ .exc c x r := by
  cases a with
  | tm d =>
    show (match soft d with | some d => R.ok (d, o) | none => .stuck) ≠ R.exc c x r
    split <;> simp
  | pl i π =>
    show ((keep (now ρ o) i π).bind fun (d, o2) => R.ok (d, orE o2 o)) ≠ R.exc c x r
    unfold keep
    split
    · simp [R.bind]
    · split
      · simp [R.bind]
      · split <;> simp [R.bind]
theorem okSeq {d : D} {v : V} {G H : Hp} {Fv : List Addr} {xs : List D} (r : Rp T G H d v Fv) (e : seqOf d = some xs) (hs : shL xs = true) : ∃ q vs, v = .ref q ∧ ((∀ H', Ext (lay G H Fv) H' → Ext G H' → SqL T.K H' q vs) ∨ (∀ H', Ext (lay G H Fv) H' → Ext G H' → SqT T.K H' q vs)) ∧ ∀ H', RpL T G H' xs vs [] := by
  unfold seqOf at e
  split at e
  · cases e
    rename_i o
    cases o with
    | false =>
      obtain ⟨p, vs, ev, q, r, _⟩ := r
      exact ⟨p, vs, ev, .inl fun H' _ ex => .inl (.inl (ex _ _ q)), fun H' => RpL.sh hs r (.refl _)⟩
    | true =>
      obtain ⟨p, vs, F', ev, q, r, ef⟩ := r
      exact ⟨p, vs, ev, .inl fun H' ex _ => .inl (.inl (ex _ _ (lay_get p (by rw [ef]; exact List.mem_cons_self) _ q))), fun H' => RpL.sh hs r (.refl _)⟩
  · cases e
    obtain ⟨p, vs, ev, q, r⟩ := r
    exact ⟨p, vs, ev, .inr fun H' _ ex => ex.sqT q, fun H' => RpL.sh hs r (.refl _)⟩
  · cases e
theorem i_seq {a : O} (hK : X.K = T.K) (ha : PE X ea (tO T W (dO C a))) : PI X tg ea (tI T W (.seq a) (dI C (.seq a))) := by
  refine (pi_any ha).weak fun σ H Q ⟨G, ρ, F, P, h⟩ => ?_
  simp only [dI] at h
  refine ⟨G, ρ, F, P, h.bind.imp (fun (x, o1) h v H1 ⟨G1, Fv, F1, E1, t1⟩ => ?_) fun _ _ _ z => z⟩
  rcases (Post.bind h).two with ⟨⟨d, o2⟩, ek, h⟩ | ⟨_, _, _, ek, _⟩
  rotate_left
  · exact absurd ek keepO_exc
  simp only at h
  cases es : seqOf d with
  | none => simp only [es] at h; exact h.elim
  | some xs =>
    simp only [es] at h
    cases hs : shL xs with
    | false => simp only [hs] at h; exact h.elim
    | true =>
      simp only [hs] at h
      obtain ⟨G2, Fw, F2, E2, r2⟩ := keepO_ok E1 t1 ek
      obtain ⟨q, vs, rfl, hq, rl⟩ := okSeq r2 es hs
      have E3 := E2.freeze (Fw := Fw) fun _ z => z
      have exG : Ext G2 (lay G2 H1 Fw) := lay_ext E2.step.h
      refine ⟨q, rfl, ?_⟩
      rcases hq with hq | hq
      · refine .inl ⟨⟨vs, by rw [hK]; exact hq H1 E3.step.h E2.step.h⟩, h _ H1 (idle_back (fun _ => rfl) (fun _ _ => rfl) E3 (wk_list (vs := vs) (fun H' ex _ => by rw [hK]; exact hq H' ex (exG.trans ex)) (RpL.mono exG xs vs [] (rl H1) (fun _ z => nomatch z))))⟩
      · refine .inr ⟨⟨vs, by rw [hK]; exact hq H1 E3.step.h E2.step.h⟩, h _ H1 (idle_back (fun _ => rfl) (fun _ _ => rfl) E3 (wk_tup (vs := vs) (fun H' ex _ => by rw [hK]; exact hq H' ex (exG.trans ex)) (RpL.mono exG xs vs [] (rl H1) (fun _ z => nomatch z))))⟩
theorem rng_one {ds : List D} {j : Int} {r : List D} (e : rngD [.int j] = some r) : -(2 ^ 62) ≤ j ∧ j < 2 ^ 62 ∧ r = rngL 0 j.toNat := by
  have e : (if okR j then some (rngL 0 j.toNat) else none) = some r := e
  split at e
  · rename_i h
    simp only [okR_eq] at h
    unfold two62 at h
    simp only [Bool.and_eq_true, decide_eq_true_eq] at h
    cases e
    exact ⟨by have := h.1; omega, by have := h.2; omega, rfl⟩
  · cases e
theorem i_rng1 {a : O} (hg : Gl X "range") (hm : X.mg "range" = none) (ha : PE X ea (tO T W (dO C a))) (pl : plainE ea = true) : PI X tg (.Call (.Name "range" p) [ea] [] pos) (tI T W (.rng1 a) (dI C (.rng1 a))) := by
  refine (pi_range1 hg hm (pa_cons ha pa_nil (star_cons pl [] X.env)) (star_cons pl [] X.env)).weak fun σ H Q ⟨G, ρ, F, P, h⟩ => ?_
  simp only [dI] at h
  refine ⟨G, ρ, F, P, h.bind.imp (fun (x, o1) h v H1 ⟨G1, Fv, F1, E1, t1⟩ => ?_) fun _ _ _ z => z⟩
  simp only at h t1 E1
  cases er : x.rd (now ρ o1) with
  | none => simp only [er] at h; exact h.elim
  | some d =>
    simp only [er] at h
    cases d with
    | int j =>
      simp only at h
      obtain ⟨Fw, hw, Fd, rd⟩ := Tmp.read E1.pre t1 er
      cases eg : rngD [.int j] with
      | none => simp only [eg] at h; exact h.elim
      | some r =>
        simp only [eg] at h
        obtain ⟨b1, b2, rfl⟩ := rng_one (ds := []) eg
        refine ⟨j, by rw [rd.int], b1, b2, h _ H1 (idle_back (fun _ => rfl) (fun _ _ => rfl) E1.nil (wk_rng 0 j.toNat))⟩
    | _ => exact h.elim
/-- a slot's own sequence, out of reach meanwhile -/
theorem lock_ok {i : Nat} {G H G1 H1 : Hp} {F F1 : List Addr} {ρ : Env} {σ : L2.St} {o : Option Env} {d : D} {xs : List D} (E : Ev T G H F ρ σ o G1 H1 [] F1) (ed : slot (now ρ o) i = d) (ng : d ≠ .gone) (es : seqOf d = some xs) (hs : shL xs = true) :
    ∃ v q vs, σ[i]? = some (some v) ∧ v = .ref q ∧ ((SqL T.K H1 q vs ∧ OkI T (.lock i) G H F ρ σ o xs (Itl T.K q) H1) ∨ (SqT T.K H1 q vs ∧ OkI T (.lock i) G H F ρ σ o xs (Itt T.K q) H1)) := by
  obtain ⟨v, ev, hi⟩ := E.env.vat ed ng
  obtain ⟨s, A, B, es', pm, rs, put⟩ := E.env.focus hi
  rw [ev] at es'
  cases es'
  have rd : Rp T G1 H1 d v A := by
    rcases rs with ⟨eg, _⟩ | ⟨w, ew, r⟩
    · exact absurd (ed.symm.trans eg) ng
    · cases ew
      rw [← ed]; exact r
  obtain ⟨F2, pm2, re2⟩ := put (F1' := []) (d' := .gone) (s' := some v) (.refl _) (fun _ _ _ q => q) (.inl ⟨rfl, rfl⟩)
  rw [set_same ev] at re2
  rw [List.nil_append] at pm2
  have pm3 : F1.Perm (A ++ F2) := pm.trans (pm2.symm.append_left A)
  have back : ∀ G2 H2 ρ2 σ2 F3, RpE T G2 H2 ρ2 σ2 F3 → Ext G1 G2 → Held H1 A H2 → (A ++ F3).Nodup → (∀ j, lockOf (.lock i) = some j → σ2[j]? = σ[j]?) → ∃ F4, F4.Nodup ∧ (∀ a ∈ F4, a ∈ A ++ F3) ∧ RpE T G2 H2 (unlockI (.lock i) (now ρ o) ρ2) σ2 F4 := by
    intro G2 H2 ρ2 σ2 F3 re ex hd nd k
    have r3 : Rp T G2 H2 d v A := Rp.mono ex d v A rd hd
    show ∃ F4, F4.Nodup ∧ (∀ a ∈ F4, a ∈ A ++ F3) ∧ RpE T G2 H2 (ρ2.set i (slot (now ρ o) i)) σ2 F4
    rw [ed]
    exact re.put nd r3 ((k i rfl).trans ev)
  have fin : ∀ {J : It}, Wk T J xs G1 H1 A → OkI T (.lock i) G H F ρ σ o xs J H1 := fun wk => ⟨G1, F1, A, F2, E, pm3, re2, wk, back⟩
  unfold seqOf at es
  split at es
  · cases es
    rename_i ow
    cases ow with
    | false =>
      obtain ⟨p, vs, e1, q, r, _⟩ := rd
      exact ⟨v, p, vs, ev, e1, .inl ⟨.inl (.inl (E.step.h _ _ q)), fin (wk_list (vs := vs) (fun H' ex _ => .inl (.inl (ex _ _ q))) (RpL.sh hs r (.refl _)))⟩⟩
    | true =>
      obtain ⟨p, vs, F', e1, q, r, ef⟩ := rd
      exact ⟨v, p, vs, ev, e1, .inl ⟨.inl (.inl q), fin (wk_list (vs := vs) (fun H' ex hd => .inl (.inl (hd p (by rw [ef]; exact List.mem_cons_self) _ q))) (RpL.sh hs r (.refl _)))⟩⟩
  · cases es
    obtain ⟨p, vs, e1, q, r⟩ := rd
    exact ⟨v, p, vs, ev, e1, .inr ⟨E.step.h.sqT q, fin (wk_tup (vs := vs) (fun H' ex _ => ex.sqT q) (RpL.sh hs r (.refl _)))⟩⟩
  · cases es
theorem i_lock {i : Nat} (hK : X.K = T.K) (ha : PE X ea (tVar i)) : PI X tg ea (tI T W (.lock i) (dI C (.lock i))) := by
  refine (pi_any ha).weak fun σ H Q ⟨G, ρ, F, P, h⟩ => ?_
  simp only [dI] at h
  cases es : seqOf (slot ρ i) with
  | none => simp only [es] at h; exact h.elim
  | some xs =>
    simp only [es] at h
    have ng : slot ρ i ≠ .gone := fun z => by rw [z] at es; cases es
    have fin : ∀ {o : Option Env} {ys : List D}, (∀ J H1, OkI T (.lock i) G H F ρ σ o ys J H1 → Q J H1) → (∃ v q vs, σ[i]? = some (some v) ∧ v = V.ref q ∧ ((SqL T.K H q vs ∧ OkI T (.lock i) G H F ρ σ o ys (Itl T.K q) H) ∨ (SqT T.K H q vs ∧ OkI T (.lock i) G H F ρ σ o ys (Itt T.K q) H))) →
        tVar i σ H fun x H1 => ∃ a, x = .ref a ∧ (((∃ xs, SqL X.K H1 a xs) ∧ Q (Itl X.K a) H1) ∨ ((∃ xs, SqT X.K H1 a xs) ∧ Q (Itt X.K a) H1)) := fun h ⟨v, q, vs, e1, e2, e3⟩ => by
      rw [hK]
      refine ⟨v, e1, q, e2, ?_⟩
      rcases e3 with ⟨e3, e4⟩ | ⟨e3, e4⟩
      · exact .inl ⟨⟨vs, e3⟩, h _ _ e4⟩
      · exact .inr ⟨⟨vs, e3⟩, h _ _ e4⟩
    cases hs : shL xs with
    | true =>
      simp only [hs] at h
      exact fin h (lock_ok P.ev0 rfl ng es hs)
    | false =>
      simp only [hs] at h
      cases hf : fzableL xs with
      | false => simp only [hf] at h; exact h.elim
      | true =>
        simp only [hf] at h
        obtain ⟨v, ev, hi⟩ := P.env.vat rfl ng
        have eg : getS ρ i [] = some (slot ρ i) := by
          unfold getS
          cases e : slot ρ i <;> first | rfl | exact absurd e ng
        obtain ⟨F1, r, n1, g1, put⟩ := P.change eg (.var ev)
        have hfz : fzable (slot ρ i) = true := by
          cases e : slot ρ i with
          | lst o ys => rw [e] at es; cases es; simpa only [fzable] using hf
          | tup ys => rw [e] at es; cases es; simpa only [fzable] using hf
          | _ => rw [e] at es; cases es
        have r2 : Rp T (lay G H F1) H (fz (slot ρ i)) v [] := Rp.fz (lay_ext P.ex) _ v F1 hfz r lay_get
        obtain ⟨F', E⟩ := put (Fv := []) (F1' := []) (Step.freeze P.ex) r2
        have es2 : seqOf (fz (slot ρ i)) = some (fzL xs) := by
          cases e : slot ρ i with
          | lst o ys => rw [e] at es; cases es; rfl
          | tup ys => rw [e] at es; cases es; rfl
          | _ => rw [e] at es; cases es
        have sl : slot (ρ.set i (fz (slot ρ i))) i = fz (slot ρ i) := by
          unfold slot
          rw [List.getD_eq_getElem?_getD, List.getElem?_set_self hi]
          rfl
        exact fin h (lock_ok (o := some (ρ.set i (fz (slot ρ i)))) E sl (fun z => by rw [z] at es2; cases es2) es2 (shL_fzL xs hf))
end
end Mp
/-! for, while. -/
namespace Mp
open PySem L2

def prL (pr : Nat → Bool) (it : I) : Nat → Bool := fun j => pr j || decide (lockOf it = some j)
theorem prL_le {pr : Nat → Bool} {it : I} {σ σ' : L2.St} (h : Kp (prL pr it) σ σ') : Kp pr σ σ' := ⟨h.1, fun i hi => h.2 i (by unfold prL; rw [hi]; rfl)⟩
theorem prL_lock {pr : Nat → Bool} {it : I} {σ σ' : L2.St} (h : Kp (prL pr it) σ σ') : ∀ i, lockOf it = some i → σ'[i]? = σ[i]? := fun i hi => h.2 i (by unfold prL; rw [decide_eq_true hi, Bool.or_true])
section
variable {X : Cx} {T : Tab} {W : WX} {C : Cfg} {pr : Nat → Bool} {ei et : Expr} {bs : List Stmt} {pos : Pos}
theorem held_of {G H G' H' : Hp} {F F' R : List Addr} (s : Step G H F G' H' F') (dj : ∀ a ∈ R, a ∉ F) : Held H R H' := fun a ha o q => s.keep a o q (dj a ha)
theorem s_for {it : I} {tg : Tg} {body : Ss} (hp : PassesOwn (model X.prog X.w) X.A X.env X.xe) (hc : X.calm = true) (hi : PI X et ei (tI T W it (dI C it))) (hg : PG X et (tG T (prL pr it) tg)) (hb : PSs X bs (tS T W (prL pr it) (dSs C body)))
    (hs : ∀ x, foldedSetIterable ei X.env x = pure x) : PS X (.For et ei bs [] pos) (tS T W pr (dS C (.for_ it tg body))) := by
  refine (ps_for hp hc hi hg hb hs).weak fun DD σ H ⟨G, ρ, F, P, h⟩ => ?_
  simp only [dS] at h
  refine ⟨G, ρ, F, P, h.then.imp (fun (ds, o) h J H1 ok => ?_) fun _ _ _ z => z⟩
  obtain ⟨G1, F1, R, F2, E, pm, re, wk, back⟩ := ok
  simp only at h E re wk back
  generalize hturn : (fun x r => match bindT tg x r with
      | none => SR.stuck
      | some r1 => dSs C body r1) = turn at h
  -- behind the loop
  have ndR := pm.nodup_iff.mp E.pre.nd
  obtain ⟨r1, r2, r3⟩ := List.nodup_append.mp ndR
  have dj : ∀ a ∈ R, a ∉ F2 := fun a ha hb => r3 a ha a hb rfl
  have gnR : ∀ a ∈ R, G1 a = none := fun a ha => E.pre.gn a (pm.mem_iff.mpr (List.mem_append_left _ ha))
  have trkR : Trk H1 R := fun a ha => E.env.trk a (pm.mem_iff.mpr (List.mem_append_left _ ha))
  have fin : ∀ {G' H' : Hp} {ρ' : Env} {σ' : L2.St} {Fv F' : List Addr}, Step G1 H1 F2 G' H' (Fv ++ F') → RpE T G' H' ρ' σ' F' → Kp (prL pr it) σ σ' → ∃ F4, Step G H F G' H' (Fv ++ F4) ∧ RpE T G' H' (unlockI it (now ρ o) ρ') σ' F4 := fun {G' H' ρ' σ' Fv F'} s re' k => by
    have m := s.more trkR gnR r1 dj
    have S := E.step.trans (m.perm pm.symm (.refl _))
    obtain ⟨a1, a2, a3⟩ := List.nodup_append.mp S.nd
    obtain ⟨b1, b2, b3⟩ := List.nodup_append.mp a2
    have nd2 : (R ++ F').Nodup := List.nodup_append.mpr ⟨a1, b2, fun a ha b hb => a3 a ha b (List.mem_append_right _ hb)⟩
    obtain ⟨F4, f1, f2, f3⟩ := back G' H' ρ' σ' F' re' s.g (held_of s dj) nd2 (prL_lock k)
    refine ⟨F4, S.less (List.nodup_append.mpr ⟨b1, f1, fun a ha b hb => ?_⟩) fun a ha => ?_, f3⟩
    · rcases List.mem_append.mp (f2 b hb) with z | z
      · exact fun e => a3 b z a (List.mem_append_left _ ha) e.symm
      · exact b3 a ha b z
    · rcases List.mem_append.mp ha with z | z
      · exact List.mem_append_right _ (List.mem_append_left _ z)
      · rcases List.mem_append.mp (f2 a z) with z | z
        · exact List.mem_append_left _ z
        · exact List.mem_append_right _ (List.mem_append_right _ z)
  refine ⟨fun i m σ' H' => m = ds.length - i ∧ i ≤ ds.length ∧ ∃ G' ρ' F', Step G1 H1 F2 G' H' F' ∧ RpE T G' H' ρ' σ' F' ∧ Kp (prL pr it) σ σ' ∧ PostS T W pr DD G H F σ ((loopF turn (ds.drop i) ρ').mapE (unlockI it (now ρ o))), ⟨ds.length, ?_⟩, ?_⟩
  · exact ⟨rfl, Nat.zero_le _, G1, _, F2, ⟨.refl _, E.step.h, fun _ _ q _ => q, fun a ha => .inl ha, fun _ _ q => .inl q, r2, fun a ha => E.pre.gn a (pm.mem_iff.mpr (List.mem_append_right _ ha))⟩, re, .refl, h⟩
  · rintro i m σ' H' ⟨rfl, hi', G', ρ', F', s, re', k, hq⟩
    have hd := held_of s dj
    by_cases hlt : i < ds.length
    · refine .inr ⟨wk.go i H' (s.g.trans s.h) hd hlt, fun σ3 H3 => ∃ G3 ρ3 F3, Step G1 H1 F2 G3 H3 F3 ∧ RpE T G3 H3 ρ3 σ3 F3 ∧ Kp (prL pr it) σ σ3 ∧ PostS T W pr DD G H F σ ((loopF turn (ds.drop (i + 1)) ρ3).mapE (unlockI it (now ρ o))), fun σ3 H3 hh => ⟨ds.length - (i + 1), by omega, rfl, hlt, hh⟩, fun x H2 y => ?_⟩
      obtain ⟨Gc, sy, rx⟩ := wk.yld i G' H' x H2 ds[i] s.g s.h hd y (List.getElem?_eq_getElem hlt)
      have m := sy.more (R := F') re'.trk s.gn s.nd (fun _ _ z => nomatch z)
      rw [List.append_nil] at m
      have s2 := s.trans m
      have re2 : RpE T Gc H2 ρ' σ' F' := re'.mono sy.g fun a ha q e => sy.keep a q e (fun z => nomatch z)
      rw [List.drop_eq_getElem_cons hlt] at hq
      have hq : PostS T W pr DD G H F σ ((match turn ds[i] ρ' with
        | .nx ρ' => loopF turn (ds.drop (i + 1)) ρ'
        | .ct ρ' => loopF turn (ds.drop (i + 1)) ρ'
        | .bk ρ' => .nx ρ'
        | r => r).mapE (unlockI it (now ρ o))) := hq
      cases eb : bindT tg ds[i] ρ' with
      | none =>
        have et' : turn ds[i] ρ' = .stuck := by rw [← hturn]; simp only [eb]
        rw [et'] at hq
        exact hq.elim
      | some ρ2 =>
        have et' : turn ds[i] ρ' = dSs C body ρ2 := by rw [← hturn]; simp only [eb]
        rw [et'] at hq
        refine ⟨Gc, ρ', F', ds[i], [], ρ2, s2.h, re2, s2.nd, rx, eb, fun σ3 F3 re3 nd3 sub3 k3 => ?_⟩
        have s3 : Step G1 H1 F2 Gc H2 F3 := s2.less nd3 sub3
        have kk := k.trans k3
        refine ⟨Gc, ρ2, F3, ⟨s3.h, re3, s3.nd, s3.gn⟩, ?_⟩
        cases ed : dSs C body ρ2 with
        | nx ρ4 =>
          rw [ed] at hq
          intro σ4 H4 ⟨G4, F4, s4, re4, k4⟩
          exact ⟨G4, ρ4, F4, s3.trans s4, re4, kk.trans k4, hq⟩
        | ct ρ4 =>
          rw [ed] at hq
          intro σ4 H4 ⟨G4, F4, s4, re4, k4⟩
          exact ⟨G4, ρ4, F4, s3.trans s4, re4, kk.trans k4, hq⟩
        | bk ρ4 =>
          rw [ed] at hq
          intro σ4 H4 ⟨G4, F4, s4, re4, k4⟩
          obtain ⟨F5, s5, re5⟩ := fin (Fv := []) (s3.trans s4) re4 (kk.trans k4)
          exact hq σ4 H4 ⟨G4, F5, s5, re5, prL_le (kk.trans k4)⟩
        | ret d ρ4 =>
          rw [ed] at hq
          intro v σ4 H4 ⟨G4, Fv, F4, s4, rv, re4, k4⟩
          obtain ⟨F5, s5, re5⟩ := fin (s3.trans s4) re4 (kk.trans k4)
          exact hq v σ4 H4 ⟨G4, Fv, F5, s5, rv, re5, prL_le (kk.trans k4)⟩
        | exc c x ρ4 =>
          rw [ed] at hq
          intro σ4 k4 H4 dd ⟨G4, F4, s4, re4, q⟩
          obtain ⟨F5, s5, re5⟩ := fin (Fv := []) (s3.trans s4) re4 (kk.trans k4)
          exact hq σ4 (prL_le (kk.trans k4)) H4 dd ⟨G4, F5, s5, re5, q⟩
        | stuck => rw [ed] at hq; exact hq.elim
    · have e : i = ds.length := by omega
      subst e
      rw [List.drop_length] at hq
      obtain ⟨F5, s5, re5⟩ := fin (Fv := []) s re' k
      exact .inl ⟨wk.stop H' (s.g.trans s.h) hd, hq σ' H' ⟨G', F5, s5, re5, prL_le k⟩⟩
/-- while: the fuel of the den -/
theorem s_whl {t : Mp.T} {body : Ss} {ec : Expr} (hp : PassesOwn (model X.prog X.w) X.A X.env X.xe) (hc : PT X ec (tB' T W (dT C t))) (hb : PSs X bs (tS T W pr (dSs C body))) : PS X (.While ec bs [] pos) (tS T W pr (dS C (.whl t body))) := by
  refine (ps_while hp hc hb).weak fun DD σ H ⟨G, ρ, F, P, h⟩ => ?_
  simp only [dS] at h
  refine ⟨fun m σ' H' => ∃ G' ρ' F', Step G H F G' H' F' ∧ RpE T G' H' ρ' σ' F' ∧ Kp pr σ σ' ∧ PostS T W pr DD G H F σ (loopW (dT C t) (dSs C body) m ρ'), ⟨C.fuel, G, ρ, F, P.step0, P.env, .refl, h⟩, ?_⟩
  rintro m σ' H' ⟨G', ρ', F', s, re, k, hq⟩
  cases m with
  | zero => exact hq.elim
  | succ m =>
    have hq : PostS T W pr DD G H F σ ((dT C t ρ').then fun (b, o) => match b with
      | false => .nx (now ρ' o)
      | true => match dSs C body (now ρ' o) with
        | .nx ρ' => loopW (dT C t) (dSs C body) m ρ'
        | .ct ρ' => loopW (dT C t) (dSs C body) m ρ'
        | .bk ρ' => .nx ρ'
        | r => r) := hq
    have hx : ∀ c x r, Xi T W G H F σ' c x r → Xi T W G' H' F' σ' c x r := fun c x r z => Xi.mono s c x r z
    have hq2 : Post (dT C t ρ') (fun (b, o) => PostS T W pr DD G H F σ (match b with
      | false => SR.nx (now ρ' o)
      | true => match dSs C body (now ρ' o) with
        | .nx ρ' => loopW (dT C t) (dSs C body) m ρ'
        | .ct ρ' => loopW (dT C t) (dSs C body) m ρ'
        | .bk ρ' => .nx ρ'
        | r => r)) (fun c x r => Xi T W G H F σ' c x r) := by
      cases et : dT C t ρ' with
      | ok q => rw [et] at hq; exact hq
      | exc c x r => rw [et] at hq; exact hq σ' k
      | stuck => rw [et] at hq; exact hq
    refine ⟨G', ρ', F', ⟨s.h, re, s.nd, s.gn⟩, hq2.imp (fun (b, o) hq H1 ⟨G1, F1, E⟩ => ?_) hx⟩
    have s1 := s.trans E.step
    cases b with
    | false =>
      refine cast (if_neg Bool.false_ne_true).symm ?_
      exact hq σ' H1 ⟨G1, F1, s1, E.env, k⟩
    | true =>
      refine cast (if_pos rfl).symm ?_
      refine ⟨fun σ3 H3 => ∃ G3 ρ3 F3, Step G H F G3 H3 F3 ∧ RpE T G3 H3 ρ3 σ3 F3 ∧ Kp pr σ σ3 ∧ PostS T W pr DD G H F σ (loopW (dT C t) (dSs C body) m ρ3), fun σ3 H3 hh => ⟨m, Nat.lt_succ_self _, hh⟩, ?_⟩
      simp only at hq
      refine ⟨G1, now ρ' o, F1, ⟨s1.h, E.env, s1.nd, s1.gn⟩, ?_⟩
      cases ed : dSs C body (now ρ' o) with
      | nx ρ4 =>
        rw [ed] at hq
        intro σ4 H4 ⟨G4, F4, s4, re4, k4⟩
        exact ⟨G4, ρ4, F4, s1.trans s4, re4, k.trans k4, hq⟩
      | ct ρ4 =>
        rw [ed] at hq
        intro σ4 H4 ⟨G4, F4, s4, re4, k4⟩
        exact ⟨G4, ρ4, F4, s1.trans s4, re4, k.trans k4, hq⟩
      | bk ρ4 =>
        rw [ed] at hq
        exact fun σ4 H4 q => hq σ4 H4 (q.after s1 k)
      | ret d ρ4 =>
        rw [ed] at hq
        exact PostS.mono (r := .ret d ρ4) s1 k hq
      | exc c x ρ4 =>
        rw [ed] at hq
        exact PostS.mono (r := .exc c x ρ4) s1 k hq
      | stuck => rw [ed] at hq; exact hq.elim
end
end Mp
/-! List comprehensions. -/
namespace Mp
open PySem L2

section
variable {T : Tab} {W : WX} {G G' H H' : Hp} {ρ : Env} {σ : L2.St} {F F' : List Addr}
theorem Ev.pure {Fv : List Addr} (E : Ev T G H F ρ σ none G' H' Fv F') : Step G H [] G' H' Fv := by
  obtain ⟨xh, ef⟩ := E.calm rfl
  subst ef
  obtain ⟨n1, n2, n3⟩ := List.nodup_append.mp E.step.nd
  refine ⟨E.step.g, E.step.h, fun a o q _ => xh a o q, fun a ha => ?_, fun a o q => ?_, n1, fun a ha => E.step.gn a (List.mem_append_left _ ha)⟩
  · rcases E.step.sub a (List.mem_append_left _ ha) with z | z
    · exact absurd rfl (n3 a ha a z)
    · exact .inr z
  · rcases E.step.gsub a o q with z | z | z
    · exact .inl z
    · rw [E.step.gn a (List.mem_append_right _ z)] at q; cases q
    · exact .inr (.inr z)
theorem wipe_get {i : Nat} : ∀ {own : List Nat} {σ : L2.St}, (L2.wipe σ own)[i]? = if i ∈ own ∧ i < σ.length then some none else σ[i]?
  | [], σ => by simp [L2.wipe]
  | v :: vs, σ => by
    unfold L2.wipe
    rw [List.getElem?_set, wipe_get]
    by_cases h : v = i
    · subst h
      rw [if_pos rfl, wipe_length]
      by_cases hl : v < σ.length
      · rw [if_pos hl, if_pos ⟨List.mem_cons_self, hl⟩]
      · rw [if_neg hl, if_neg (fun z => hl z.2), List.getElem?_eq_none (by omega)]
    · rw [if_neg h]
      have e : i ∈ v :: vs ↔ i ∈ vs := ⟨fun z => (List.mem_cons.mp z).elim (fun e => absurd e.symm h) id, List.mem_cons_of_mem _⟩
      simp only [e]
theorem wipe_eq {own : List Nat} {σ σ2 : L2.St} (k : Kp (fun j => !own.contains j) (L2.wipe σ own) σ2) : L2.wipe σ2 own = L2.wipe σ own := by
  have hl : σ2.length = σ.length := k.1.trans (wipe_length σ own)
  refine List.ext_getElem? fun j => ?_
  rw [wipe_get, wipe_get, hl]
  by_cases h : j ∈ own
  · by_cases h2 : j < σ.length
    · rw [if_pos ⟨h, h2⟩, if_pos ⟨h, h2⟩]
    · rw [if_neg (fun z => h2 z.2), if_neg (fun z => h2 z.2), List.getElem?_eq_none (by omega), List.getElem?_eq_none (by omega)]
  · rw [if_neg (fun z => h z.1), if_neg (fun z => h z.1), k.2 j (by simpa using h), wipe_get, if_neg (fun z => h z.1)]
/-- a slot is forgotten -/
theorem RpE.forget {i : Nat} (re : RpE T G H ρ σ F) (nd : F.Nodup) : ∃ F', F'.Nodup ∧ (∀ a ∈ F', a ∈ F) ∧ RpE T G H (ρ.set i .gone) (σ.set i Option.none) F' := by
  by_cases hi : i < ρ.length
  · obtain ⟨s, A, R, es, pm, rs, put⟩ := re.focus hi
    obtain ⟨F', pm', re'⟩ := put (F1' := []) (d' := .gone) (s' := Option.none) (.refl _) (fun a ha o q => q) (.inl ⟨rfl, rfl⟩)
    rw [List.nil_append] at pm'
    exact ⟨F', pm'.nodup_iff.mpr (List.nodup_append.mp (pm.nodup_iff.mp nd)).2.1, fun a ha => pm.mem_iff.mpr (List.mem_append_right _ (pm'.mem_iff.mp ha)), re'⟩
  · rw [List.set_eq_of_length_le (by omega), List.set_eq_of_length_le (by rw [re.length]; omega)]
    exact ⟨F, nd, fun a ha => ha, re⟩
theorem RpE.wipe (re : RpE T G H ρ σ F) (nd : F.Nodup) : ∀ own : List Nat, ∃ F', F'.Nodup ∧ (∀ a ∈ F', a ∈ F) ∧ RpE T G H (Mp.wipe own ρ) (L2.wipe σ own) F'
  | [] => ⟨F, nd, fun a ha => ha, re⟩
  | i :: r => by
    obtain ⟨F1, n1, s1, re1⟩ := RpE.wipe re nd r
    obtain ⟨F2, n2, s2, re2⟩ := re1.forget (i := i) n1
    exact ⟨F2, n2, fun a ha => s1 a (s2 a ha), re2⟩
/-- shared slots are forgotten: nothing is lost -/
theorem RpE.forgetS {i : Nat} (re : RpE T G H ρ σ F) (h : slot ρ i = .gone ∨ sh (slot ρ i) = true) : ∃ F', F'.Perm F ∧ RpE T G H (ρ.set i .gone) (σ.set i Option.none) F' := by
  by_cases hi : i < ρ.length
  · obtain ⟨s, A, R, es, pm, rs, put⟩ := re.focus hi
    obtain ⟨F', pm', re'⟩ := put (F1' := []) (d' := .gone) (s' := Option.none) (.refl _) (fun a ha o q => q) (.inl ⟨rfl, rfl⟩)
    have hA : A = [] := by
      rcases rs with ⟨_, e⟩ | ⟨v, _, r⟩
      · exact e
      · rcases h with h | h
        · rw [h] at r; exact r
        · exact Rp.sh_nil _ _ _ h r
    subst hA
    exact ⟨F', pm'.trans pm.symm, re'⟩
  · rw [List.set_eq_of_length_le (by omega), List.set_eq_of_length_le (by rw [re.length]; omega)]
    exact ⟨F, .refl _, re⟩
theorem slot_wipe {i : Nat} : ∀ {own : List Nat}, slot (Mp.wipe own ρ) i = .gone ∨ slot (Mp.wipe own ρ) i = slot ρ i
  | [] => .inr rfl
  | j :: r => by
    unfold Mp.wipe
    by_cases h : j = i
    · subst h; exact .inl slot_set_gone
    · rw [slot_set_ne h]; exact slot_wipe
theorem ownOk_at {own : List Nat} {i : Nat} (h : ownOk own ρ = true) (hi : i ∈ own) : slot ρ i = .gone ∨ sh (slot ρ i) = true := by
  have := List.all_eq_true.mp h i hi
  cases e : slot ρ i <;> rw [e] at this <;> first | exact .inl rfl | exact .inr this
theorem RpE.wipeS (re : RpE T G H ρ σ F) : ∀ own : List Nat, ownOk own ρ = true → ∃ F', F'.Perm F ∧ RpE T G H (Mp.wipe own ρ) (L2.wipe σ own) F'
  | [], _ => ⟨F, .refl _, re⟩
  | i :: r, h => by
    have h' : ownOk r ρ = true := by
      unfold ownOk at h ⊢
      rw [List.all_cons, Bool.and_eq_true] at h
      exact h.2
    obtain ⟨F1, p1, re1⟩ := RpE.wipeS re r h'
    obtain ⟨F2, p2, re2⟩ := re1.forgetS (i := i) (by
      rcases slot_wipe (own := r) (ρ := ρ) (i := i) with e | e
      · exact .inl e
      · rw [e]; exact ownOk_at h List.mem_cons_self)
    exact ⟨F2, p2.trans p1, re2⟩
/-- and they come back -/
theorem RpE.unwipe {G1 H1 : Hp} {ρ0 : Env} {σ : L2.St} {F0 : List Addr} (re0 : RpE T G1 H1 ρ0 σ F0) (hg : Ext G1 G) : ∀ (own : List Nat) {r : Env} {F : List Addr}, own.Nodup → ownOk own ρ0 = true → RpE T G H r (L2.wipe σ own) F → ∃ F', (F'.Nodup ∨ ¬ F.Nodup) ∧ (∀ a ∈ F', a ∈ F) ∧ RpE T G H (Mp.unwipe own ρ0 r) σ F'
  | [], r, F, _, _, re => ⟨F, Classical.em _, fun a ha => ha, re⟩
  | i :: own, r, F, nd, ok, re => by
    obtain ⟨h1, h2⟩ := List.nodup_cons.mp nd
    have ok' : ownOk own ρ0 = true := by
      unfold ownOk at ok ⊢
      rw [List.all_cons, Bool.and_eq_true] at ok
      exact ok.2
    have re : RpE T G H r ((L2.wipe σ own).set i Option.none) F := re
    have key : ∃ F', (F'.Nodup ∨ ¬ F.Nodup) ∧ (∀ a ∈ F', a ∈ F) ∧ RpE T G H (r.set i (slot ρ0 i)) (L2.wipe σ own) F' := by
      by_cases hi : i < r.length
      · obtain ⟨s, A, R, es, pm, rs, put⟩ := re.focus hi
        have hl := re.length
        rw [List.length_set, wipe_length] at hl
        have hl0 := re0.length
        have hi0 : i < ρ0.length := by omega
        obtain ⟨s0, A0, R0, es0, pm0, rs0, _⟩ := re0.focus hi0
        have hA0 : A0 = [] ∧ RpS T G H (slot ρ0 i) s0 [] := by
          rcases rs0 with ⟨e1, e2⟩ | ⟨v, e1, rr⟩
          · exact ⟨e2, .inl ⟨e1, rfl⟩⟩
          · rcases ownOk_at ok List.mem_cons_self with h | h
            · rw [h] at rr ⊢
              exact ⟨rr, .inl ⟨rfl, rfl⟩⟩
            · have := Rp.sh_nil _ _ _ h rr
              subst this
              exact ⟨rfl, .inr ⟨v, e1, Rp.sh h rr hg⟩⟩
        obtain ⟨F', pm', re'⟩ := put (F1' := []) (d' := slot ρ0 i) (s' := s0) (.refl _) (fun a ha o q => q) hA0.2
        rw [List.nil_append] at pm'
        have e1 : ((L2.wipe σ own).set i Option.none).set i s0 = L2.wipe σ own := by
          rw [List.set_set]
          refine set_same ?_
          rw [wipe_get, if_neg (fun z => h1 z.1)]
          exact es0
        rw [e1] at re'
        refine ⟨F', ?_, fun a ha => pm.mem_iff.mpr (List.mem_append_right _ (pm'.mem_iff.mp ha)), re'⟩
        by_cases hn : F.Nodup
        · exact .inl (pm'.nodup_iff.mpr (List.nodup_append.mp (pm.nodup_iff.mp hn)).2.1)
        · exact .inr hn
      · have hl := re.length
        rw [List.length_set, wipe_length] at hl
        rw [List.set_eq_of_length_le (by omega)]
        rw [List.set_eq_of_length_le (by rw [wipe_length]; omega)] at re
        exact ⟨F, Classical.em _, fun a ha => ha, re⟩
    obtain ⟨F1, n1, s1, re1⟩ := key
    obtain ⟨F2, n2, s2, re2⟩ := RpE.unwipe re0 hg own h2 ok' re1
    refine ⟨F2, ?_, fun a ha => s1 a (s2 a ha), re2⟩
    rcases n2 with n2 | n2
    · exact .inl n2
    · rcases n1 with n1 | n1
      · exact absurd n1 n2
      · exact .inr n1
/-- a turn's end: M what is held, the slots of the block forgotten -/
theorem turn_end {G1 H1 Gc H2 G4 H4 : Hp} {F2 M F3 F5 Fy : List Addr} {r r1 : Env} {σ σ2 : L2.St} {own : List Nat} {o : Option Env} (S : Step G1 H1 F2 G' H' (M ++ F')) (re : RpE T G' H' r (L2.wipe σ own) F') (trkM : Trk H' M)
    (sy : Step G' H' [] Gc H2 []) (n3 : F3.Nodup) (sub3 : ∀ a ∈ F3, a ∈ F') (E : Ev T Gc H2 F3 r1 σ2 o G4 H4 Fy F5) (k : L2.wipe σ2 own = L2.wipe σ own) :
    ∃ F6, Step G1 H1 F2 G4 H4 (M ++ (Fy ++ F6)) ∧ RpE T G4 H4 (now r (back own o)) (L2.wipe σ own) F6 ∧ Held H' M H4 ∧ Ext G' G4 ∧ (o = none → Ext H' H4 ∧ F6 = F') := by
  obtain ⟨m1, m2, m3⟩ := List.nodup_append.mp S.nd
  have kM : Held H' M H2 := fun a ha q e => sy.keep a q e (fun z => nomatch z)
  have dj : ∀ a ∈ M, a ∉ F3 := fun a ha hb => m3 a ha a (sub3 a hb) rfl
  have kM4 : Held H' M H4 := fun a ha q e => E.step.keep a q (kM a ha q e) (dj a ha)
  cases o with
  | none =>
    have p := sy.trans E.pure
    have m := p.more (R := M ++ F') (fun a ha => by
      rcases List.mem_append.mp ha with z | z
      · exact trkM a z
      · exact re.trk a z) S.gn S.nd (fun _ _ z => nomatch z)
    rw [List.append_nil] at m
    have S2 := S.trans m
    refine ⟨F', S2.perm (.refl _) ?_, re.mono p.g fun a ha q e => p.keep a q e (fun z => nomatch z), kM4, p.g, fun _ => ⟨fun a q e => p.keep a q e (fun z => nomatch z), rfl⟩⟩
    rw [List.append_assoc]
    exact List.perm_append_comm.append_left M
  | some r5 =>
    have m := sy.more (R := M ++ F') (fun a ha => by
      rcases List.mem_append.mp ha with z | z
      · exact trkM a z
      · exact re.trk a z) S.gn S.nd (fun _ _ z => nomatch z)
    rw [List.append_nil] at m
    have S2 := (S.trans m).less (F2 := M ++ F3) (List.nodup_append.mpr ⟨m1, n3, fun a ha b hb => m3 a ha b (sub3 b hb)⟩) fun a ha => by
      rcases List.mem_append.mp ha with z | z
      · exact List.mem_append_left _ z
      · exact List.mem_append_right _ (sub3 a z)
    have trkM2 : Trk H2 M := fun a ha => by
      obtain ⟨q, e⟩ := trkM a ha
      exact ⟨q, kM a ha q e⟩
    have mm := E.step.more trkM2 (fun a ha => S2.gn a (List.mem_append_left _ ha)) m1 dj
    have S3 := S2.trans mm
    obtain ⟨a1, a2, a3⟩ := List.nodup_append.mp S3.nd
    obtain ⟨b1, b2, b3⟩ := List.nodup_append.mp a2
    obtain ⟨F6, c1, c2, c3⟩ := E.env.wipe b2 own
    rw [k] at c3
    refine ⟨F6, S3.less (List.nodup_append.mpr ⟨a1, List.nodup_append.mpr ⟨b1, c1, fun a ha b hb => b3 a ha b (c2 b hb)⟩, fun a ha b hb => ?_⟩) fun a ha => ?_, c3, kM4, sy.g.trans E.step.g, fun z => nomatch z⟩
    · rcases List.mem_append.mp hb with z | z
      · exact a3 a ha b (List.mem_append_left _ z)
      · exact a3 a ha b (List.mem_append_right _ (c2 b z))
    · rcases List.mem_append.mp ha with z | z
      · exact List.mem_append_left _ z
      · rcases List.mem_append.mp z with z | z
        · exact List.mem_append_right _ (List.mem_append_left _ z)
        · exact List.mem_append_right _ (List.mem_append_right _ (c2 a z))
end
end Mp
/-! List comprehensions: the rule. -/
namespace Mp
open PySem L2

/-- no wish: nothing is raised in a comprehension's block -/
def WF : WX := fun _ _ _ _ => False
theorem compL_cons {turn : D → Env → R (List D × Option Env)} {x : D} {xs : List D} {ρ : Env} {o o3 : Option Env} {ys : List D} (e : compL turn (x :: xs) ρ o = .ok (ys, o3)) : ∃ y o1 ys', turn x (now ρ o) = .ok (y, o1) ∧ compL turn xs ρ (orE o1 o) = .ok (ys', o3) ∧ ys = y ++ ys' := by
  have e : ((turn x (now ρ o)).calm.bind fun (y, o1) => (compL turn xs ρ (orE o1 o)).bind fun (ys, o2) => .ok (y ++ ys, o2)) = .ok (ys, o3) := e
  cases e1 : turn x (now ρ o) with
  | ok q =>
    obtain ⟨y, o1⟩ := q
    rw [e1] at e
    have e : ((compL turn xs ρ (orE o1 o)).bind fun (ys, o2) => R.ok (y ++ ys, o2)) = .ok (ys, o3) := e
    cases e2 : compL turn xs ρ (orE o1 o) with
    | ok q =>
      obtain ⟨ys', o2⟩ := q
      rw [e2] at e
      cases e
      exact ⟨y, o1, ys', rfl, e2, rfl⟩
    | exc c x r => rw [e2] at e; cases e
    | stuck => rw [e2] at e; cases e
  | exc c x r => rw [e1] at e; cases e
  | stuck => rw [e1] at e; cases e
theorem compL_exc {turn : D → Env → R (List D × Option Env)} : ∀ {xs : List D} {ρ : Env} {o : Option Env} {c : Nat} {x : D} {r : Env}, compL turn xs ρ o ≠ .exc c x r
  | [], ρ, o, c, x, r, e => by cases e
  | y :: xs, ρ, o, c, x, r, e => by
    have e : ((turn y (now ρ o)).calm.bind fun (y, o1) => (compL turn xs ρ (orE o1 o)).bind fun (ys, o2) => .ok (y ++ ys, o2)) = .exc c x r := e
    cases e1 : turn y (now ρ o) with
    | ok q =>
      obtain ⟨z, o1⟩ := q
      rw [e1] at e
      have e : ((compL turn xs ρ (orE o1 o)).bind fun (ys, o2) => R.ok (z ++ ys, o2)) = .exc c x r := e
      cases e2 : compL turn xs ρ (orE o1 o) with
      | ok q => rw [e2] at e; cases e
      | exc c' x' r' => exact compL_exc e2
      | stuck => rw [e2] at e; cases e
    | exc c' x' r' => rw [e1] at e; cases e
    | stuck => rw [e1] at e; cases e
section
variable {X : Cx} {T : Tab} {W : WX} {C : Cfg} {σ : L2.St} {H : Hp} {Q : VK}
theorem orE_back (own : List Nat) (o1 o : Option Env) (ρ : Env) : now ρ (orE (back own o1) o) = now (now ρ o) (back own o1) := by cases o1 <;> rfl
theorem lc_den {it : I} {tg : Tg} {own : List Nat} {cs : Cs} {elt : E} (hnd : own.Nodup) (h : tE T W (dE C (.lc it tg own cs elt)) σ H Q) :
    tLc (tI T W it (dI C it)) (tG T (fun j => !own.contains j) tg) (tB' T WF (dCs C cs)) (tE T WF (dE C elt)) own σ H Q := by
  obtain ⟨G, ρ, F, P, h⟩ := h
  simp only [dE] at h
  refine ⟨G, ρ, F, P, h.bind.imp (fun (ds, o) h J H1 ok Dl hD => ?_) fun _ _ _ z => z⟩
  obtain ⟨G1, F1, Rr, F2, E, pm, re, wk, back'⟩ := ok
  simp only at h E re wk back'
  cases hw : ownOk own (lockI it (now ρ o)) with
  | false => simp only [hw] at h; exact h.elim
  | true =>
    simp only [hw] at h
    generalize hturn : (fun x r => match bindT tg x r with
      | none => R.stuck
      | some r1 => (dCs C cs r1).bind fun (b, o1) => match b with
        | false => R.ok ([], back own o1)
        | true => (dE C elt (now r1 o1)).bind fun (y, o2) => R.ok ([y], back own (orE o2 o1))) = turn at h
    generalize hρw : Mp.wipe own (lockI it (now ρ o)) = ρw at h
    cases ec : compL turn ds ρw none with
    | exc c x r => exact absurd ec compL_exc
    | stuck => rw [ec] at h; exact h.elim
    | ok q =>
      obtain ⟨ys, o3⟩ := q
      rw [ec] at h
      have h : Post (if ys.length ≤ line then R.ok (D.lst true ys, compO it own (now ρ o) o o3) else R.stuck) (fun (d, o') => ∀ v H', OkE T G H F ρ σ o' d v H' → Q v H') (Xi T W G H F σ) := h
      split at h
      rotate_left
      · exact h.elim
      rename_i hlen
      have ndR := pm.nodup_iff.mp E.pre.nd
      obtain ⟨r1, r2, r3⟩ := List.nodup_append.mp ndR
      have dj : ∀ a ∈ Rr, a ∉ F2 := fun a ha hb => r3 a ha a hb rfl
      have gnR : ∀ a ∈ Rr, G1 a = none := fun a ha => E.pre.gn a (pm.mem_iff.mpr (List.mem_append_left _ ha))
      have gn2 : ∀ a ∈ F2, G1 a = none := fun a ha => E.pre.gn a (pm.mem_iff.mpr (List.mem_append_right _ ha))
      have trkR : Trk H1 Rr := fun a ha => E.env.trk a (pm.mem_iff.mpr (List.mem_append_left _ ha))
      obtain ⟨Fw, pw, rew⟩ := re.wipeS own hw
      rw [hρw] at rew
      refine ⟨fun i m H' => m = ds.length - i ∧ i ≤ ds.length ∧ ∃ G' F' oacc acc accD Facc ys2, Step G1 H1 F2 G' H' ((Dl :: Facc) ++ F') ∧ RpE T G' H' (now ρw oacc) (L2.wipe σ own) F' ∧ H' Dl = some (.lst acc) ∧ RpL T G' H' accD acc Facc ∧
        (oacc = none → Ext H1 H' ∧ F' = Fw) ∧ compL turn (ds.drop i) ρw oacc = .ok (ys2, o3) ∧ ys = accD ++ ys2, ⟨ds.length, ?_⟩, ?_⟩
      · refine ⟨rfl, Nat.zero_le _, G1, Fw, none, [], [], [], ys, ?_, rew.mono (.refl _) fun a ha q e => Ext.new hD a q e, upd_same, ⟨rfl, rfl⟩, fun _ => ⟨.new hD, rfl⟩, ec, rfl⟩
        have s0 : Step G1 H1 [] G1 (upd H1 Dl (.lst [])) [Dl] := .newO E.step.h hD
        have m := s0.more (R := F2) (fun a ha => re.trk a ha) gn2 r2 (fun _ _ z => nomatch z)
        rw [List.append_nil] at m
        refine m.perm (.refl _) ?_
        exact List.perm_append_comm.trans (pw.symm.append_left [Dl])
      · rintro i m H' ⟨rfl, hi, G', F', oacc, acc, accD, Facc, ys2, S, re', hDl, rl, calm', ec', eys⟩
        have hd : Held H1 Rr H' := held_of S dj
        by_cases hlt : i < ds.length
        · rw [List.drop_eq_getElem_cons hlt] at ec'
          obtain ⟨y, o1, ys', et, ec2, ey⟩ := compL_cons ec'
          refine .inr ⟨wk.go i H' (S.g.trans S.h) hd hlt, fun H3 => ∃ G' F' oacc acc accD Facc ys2, Step G1 H1 F2 G' H3 ((Dl :: Facc) ++ F') ∧ RpE T G' H3 (now ρw oacc) (L2.wipe σ own) F' ∧ H3 Dl = some (.lst acc) ∧ RpL T G' H3 accD acc Facc ∧
            (oacc = none → Ext H1 H3 ∧ F' = Fw) ∧ compL turn (ds.drop (i + 1)) ρw oacc = .ok (ys2, o3) ∧ ys = accD ++ ys2, fun H3 hh => ⟨ds.length - (i + 1), by omega, rfl, hlt, hh⟩, fun x H2 yl => ?_⟩
          obtain ⟨Gc, sy, rx⟩ := wk.yld i G' H' x H2 ds[i] S.g S.h hd yl (List.getElem?_eq_getElem hlt)
          obtain ⟨m1, m2, m3⟩ := List.nodup_append.mp S.nd
          have re2 : RpE T Gc H2 (now ρw oacc) (L2.wipe σ own) F' := re'.mono sy.g fun a ha q e => sy.keep a q e (fun z => nomatch z)
          have et' : (match bindT tg ds[i] (now ρw oacc) with
            | none => R.stuck
            | some r1 => (dCs C cs r1).bind fun (b, o1) => match b with
              | false => R.ok ([], back own o1)
              | true => (dE C elt (now r1 o1)).bind fun (y, o2) => R.ok ([y], back own (orE o2 o1))) = .ok (y, o1) := by rw [← hturn] at et; exact et
          cases eb : bindT tg ds[i] (now ρw oacc) with
          | none => rw [eb] at et'; cases et'
          | some q1 =>
            rw [eb] at et'
            simp only at et'
            refine ⟨Gc, now ρw oacc, F', ds[i], [], q1, sy.h, re2, m2, rx, eb, fun σ2 F3 re3 nd3 sub3 k3 => ⟨wipe_eq k3, ?_⟩⟩
            have keq := wipe_eq k3
            have P3 : Pre T Gc H2 q1 σ2 F3 := ⟨sy.h, re3, nd3, fun a ha => by
              have g0 := S.gn a (List.mem_append_right _ (sub3 a ha))
              cases q : Gc a with
              | none => rfl
              | some u =>
                rcases sy.gsub a u q with z | z | z
                · rw [g0] at z; cases z
                · exact absurd z (List.not_mem_nil)
                · obtain ⟨u', e'⟩ := re'.trk a (sub3 a ha)
                  rw [e'] at z; cases z⟩
            have trkM : Trk H' (Dl :: Facc) := fun a ha => by
              rcases List.mem_cons.mp ha with z | z
              · rw [z]; exact ⟨_, hDl⟩
              · exact RpL.trk _ _ _ rl a z
            -- the clause's test
            cases ecs : dCs C cs q1 with
            | exc c x r => rw [ecs] at et'; cases et'
            | stuck => rw [ecs] at et'; cases et'
            | ok qb =>
              obtain ⟨b, ob⟩ := qb
              rw [ecs] at et'
              have et' : (match b with
                | false => R.ok ([], back own ob)
                | true => (dE C elt (now q1 ob)).bind fun (y, o2) => R.ok ([y], back own (orE o2 ob))) = .ok (y, o1) := et'
              refine ⟨Gc, q1, F3, P3, ?_⟩
              rw [ecs]
              rintro H3 ⟨G3, F4, E3⟩
              cases b with
              | false =>
                refine cast (if_neg Bool.false_ne_true).symm ?_
                cases et'
                obtain ⟨F6, S6, re6, hM, exg, cm⟩ := turn_end S re' trkM sy nd3 sub3 E3 keq
                rw [List.nil_append] at S6
                refine ⟨G3, F6, orE (back own ob) oacc, acc, accD, Facc, ys', S6, by rw [orE_back]; exact re6, hM Dl List.mem_cons_self _ hDl, RpL.mono exg _ _ _ rl fun a ha q e => hM a (List.mem_cons_of_mem _ ha) q e, fun z => ?_, ec2, by rw [eys, ey]; rfl⟩
                cases ob with
                | some r => cases z
                | none =>
                  have e1 : oacc = none := z
                  obtain ⟨c1, c2⟩ := calm' e1
                  obtain ⟨c3, c4⟩ := cm rfl
                  exact ⟨c1.trans c3, c4.trans c2⟩
              | true =>
                refine cast (if_pos rfl).symm ?_
                cases ee : dE C elt (now q1 ob) with
                | exc c x r => simp only [ee] at et'; cases et'
                | stuck => simp only [ee] at et'; cases et'
                | ok qe =>
                  obtain ⟨z, oe⟩ := qe
                  simp only [ee] at et'
                  have et' : R.ok ([z], back own (orE oe ob)) = R.ok (y, o1) := et'
                  cases et'
                  refine ⟨G3, now q1 ob, F4, E3.pre, ?_⟩
                  rw [ee]
                  rintro w H4 ⟨G4, Fy, F5, E4, rz⟩
                  have E34 := E3.trans (fun _ z => nomatch z) E4
                  rw [List.nil_append] at E34
                  obtain ⟨F6, S6, re6, hM, exg, cm⟩ := turn_end S re' trkM sy nd3 sub3 E34 keq
                  have hD4 : H4 Dl = some (.lst acc) := hM Dl List.mem_cons_self _ hDl
                  have rl4 : RpL T G4 H4 accD acc Facc := RpL.mono exg _ _ _ rl fun a ha q e => hM a (List.mem_cons_of_mem _ ha) q e
                  obtain ⟨a1, a2, a3⟩ := List.nodup_append.mp S6.nd
                  obtain ⟨a4, a5⟩ := List.nodup_cons.mp a1
                  obtain ⟨b1, b2, b3⟩ := List.nodup_append.mp a2
                  have nDy : Dl ∉ Fy := fun z => a3 Dl List.mem_cons_self Dl (List.mem_append_left _ z) rfl
                  have nD6 : Dl ∉ F6 := fun z => a3 Dl List.mem_cons_self Dl (List.mem_append_right _ z) rfl
                  have ll : acc.length < sizeLine := by
                    have e1 := congrArg List.length eys
                    rw [ey, List.length_append, List.length_append, List.length_singleton] at e1
                    rw [rl.length, ← line_eq]
                    omega
                  refine ⟨acc, hD4, ll, G4, F6, orE (back own (orE oe ob)) oacc, acc ++ [w], accD ++ [z], Facc ++ Fy, ys', ?_, ?_, upd_same, RpL.append (rl4.upd a4) (.one (rz.upd nDy)), fun zz => ?_, ec2, by rw [eys, ey, List.append_assoc]⟩
                  · have S7 := S6.trans (Step.write (o := .lst (acc ++ [w])) S6.h S6.gn hD4 (List.mem_append_left _ List.mem_cons_self) S6.nd (fun a ha => ha))
                    refine S7.perm (.refl _) ?_
                    rw [List.cons_append, List.cons_append, List.append_assoc]
                  · rw [orE_back]
                    exact re6.mono (.refl _) fun a ha q e => by rw [upd_ne (fun z => nD6 (by rw [← z]; exact ha))]; exact e
                  · cases hob : orE oe ob with
                    | some r => rw [hob] at zz; cases zz
                    | none =>
                      rw [hob] at zz
                      have e1 : oacc = none := zz
                      obtain ⟨c1, c2⟩ := calm' e1
                      obtain ⟨c3, c4⟩ := cm hob
                      refine ⟨fun a q e => ?_, c4.trans c2⟩
                      have ne : a ≠ Dl := fun z => by rw [z, hD] at e; cases e
                      rw [upd_ne ne]
                      exact c3 a q (c1 a q e)
        · have e : i = ds.length := by omega
          subst e
          rw [List.drop_length] at ec'
          cases ec'
          rw [List.append_nil] at eys
          subst eys
          refine .inl ⟨wk.stop H' (S.g.trans S.h) hd, h (.ref Dl) H' ?_⟩
          have rD : Rp T G' H' (.lst true ys) (.ref Dl) (Dl :: Facc) := ⟨Dl, acc, Facc, rfl, hDl, rl, rfl⟩
          have m := S.more (R := Rr) trkR gnR r1 dj
          have S2 := E.step.trans (m.perm pm.symm (.refl _))
          obtain ⟨n1, n2, n3⟩ := List.nodup_append.mp S2.nd
          obtain ⟨k1, k2, k3⟩ := List.nodup_append.mp n2
          cases o3 with
          | none =>
            obtain ⟨c1, c2⟩ := calm' rfl
            subst c2
            -- the slots as they were
            have ppm : (Rr ++ F').Perm F1 := (pw.append_left Rr).trans pm.symm
            refine ⟨G', Dl :: Facc, F1, ⟨?_, E.env.mono S.g fun a ha q e => c1 a q e, fun e0 => ?_⟩, rD⟩
            · refine S2.perm (.refl _) ?_
              have e1 : (Rr ++ ((Dl :: Facc) ++ F')).Perm ((Dl :: Facc) ++ (Rr ++ F')) := by
                rw [← List.append_assoc, ← List.append_assoc]
                exact List.perm_append_comm.append_right F'
              exact e1.trans (ppm.append_left _)
            · obtain ⟨x1, x2⟩ := E.calm e0
              exact ⟨x1.trans c1, x2⟩
          | some r =>
            obtain ⟨F7, n7, s7, re7⟩ := RpE.unwipe re S.g own hnd hw re'
            have n7 : F7.Nodup := n7.resolve_right fun z => z k2
            have nd8 : (Rr ++ F7).Nodup := List.nodup_append.mpr ⟨n1, n7, fun a ha b hb => n3 a ha b (List.mem_append_right _ (s7 b hb))⟩
            obtain ⟨F8, n8, s8, re8⟩ := back' G' H' _ σ F7 re7 S.g hd nd8 (fun _ _ => rfl)
            refine ⟨G', Dl :: Facc, F8, ⟨S2.less (List.nodup_append.mpr ⟨k1, n8, fun a ha b hb => ?_⟩) fun a ha => ?_, re8, fun z => nomatch z⟩, rD⟩
            · rcases List.mem_append.mp (s8 b hb) with z | z
              · exact fun e => n3 b z a (List.mem_append_left _ ha) e.symm
              · exact k3 a ha b (s7 b z)
            · rcases List.mem_append.mp ha with z | z
              · exact List.mem_append_right _ (List.mem_append_left _ z)
              · rcases List.mem_append.mp (s8 a z) with z | z
                · exact List.mem_append_left _ z
                · exact List.mem_append_right _ (List.mem_append_right _ (s7 a z))
theorem asg_den {pr : Nat → Bool} {i : Nat} {e : E} {DD : Ends} (hp : pr i = false) (h : tS T W pr (dS C (.asg (.var i) e)) DD σ H) : tE T W (dE C e) σ H (fun x H1 => gName i x σ H1 DD.nx) := by
  obtain ⟨G, ρ, F, P, h⟩ := h
  simp only [dS] at h
  refine ⟨G, ρ, F, P, h.then.imp (fun (d, o) h v H1 ⟨G1, Fv, F1, E, r⟩ => ?_) fun _ _ _ z => z⟩
  obtain ⟨F', n, sub, re'⟩ := RpE.store (i := i) E.env E.step.nd r
  exact h _ H1 ⟨G1, F', E.step.less n sub, re', .set hp⟩
variable {pr : Nat → Bool} {eit etg eelt : Expr} {ifs : List Expr} {scope : Scope} {own : List (Str × Nat)} {pos : Pos} {it : I} {tg : Tg} {cs : Cs} {elt : E}
theorem e_lc (hc : X.calm = true) (hN : X.N.Nodup) (hi : PI X etg eit (tI T W it (dI C it))) (ok : BlkOk X.N X.env.scope scope own) (hnd : (own.map (·.2)).Nodup)
    (hg : ∀ (s : Shared) (H : Hp) (Ca : Addr) (cl : List (Str × Addr)) (fp : List Addr), PG (X.blk s H scope (compEnvC scope cl Ca X.env) fp) etg (tG T (fun j => !(own.map (·.2)).contains j) tg))
    (ht : ∀ (s : Shared) (H : Hp) (Ca : Addr) (cl : List (Str × Addr)) (fp : List Addr), PTs (X.blk s H scope (compEnvC scope cl Ca X.env) fp) ifs (tB' T WF (dCs C cs)))
    (he : ∀ (s : Shared) (H : Hp) (Ca : Addr) (cl : List (Str × Addr)) (fp : List Addr), PE (X.blk s H scope (compEnvC scope cl Ca X.env) fp) eelt (tE T WF (dE C elt))) (hs : ∀ x, foldedSetIterable eit X.env x = pure x) :
    PE X (.ListComp eelt [⟨etg, eit, ifs, 0⟩] scope pos) (tE T W (dE C (.lc it tg (own.map (·.2)) cs elt))) :=
  (pe_lc hc hN hi ok hg ht he hs).weak fun σ H Q h => lc_den hnd h
theorem s_lc {i : Nat} {y : Str} {py spos : Pos} (hp : pr i = false) (hc : X.calm = true) (hN : X.N.Nodup) (hy : X.N[i]? = some y) (hyl : X.env.scope.names.lookup y = some .local)
    (hsw : swapsWith (.ListComp eelt [⟨etg, eit, ifs, 0⟩] scope pos) (some (.Name y py)) spos.line X.env = pure true) (hi : PI X etg eit (tI T W it (dI C it))) (ok : BlkOk X.N X.env.scope scope own) (hnd : (own.map (·.2)).Nodup)
    (hg : ∀ (s : Shared) (H : Hp) (Ca : Addr) (cl : List (Str × Addr)) (fp : List Addr), PG (X.blk s H scope (compEnvC scope cl Ca X.env) fp) etg (tG T (fun j => !(own.map (·.2)).contains j) tg))
    (ht : ∀ (s : Shared) (H : Hp) (Ca : Addr) (cl : List (Str × Addr)) (fp : List Addr), PTs (X.blk s H scope (compEnvC scope cl Ca X.env) fp) ifs (tB' T WF (dCs C cs)))
    (he : ∀ (s : Shared) (H : Hp) (Ca : Addr) (cl : List (Str × Addr)) (fp : List Addr), PE (X.blk s H scope (compEnvC scope cl Ca X.env) fp) eelt (tE T WF (dE C elt))) (hs : ∀ x, foldedSetIterable eit X.env x = pure x) :
    PS X (.Assign [.Name y py] (.ListComp eelt [⟨etg, eit, ifs, 0⟩] scope pos) spos) (tS T W pr (dS C (.asg (.var i) (.lc it tg (own.map (·.2)) cs elt)))) :=
  (ps_setLc hc hN hy hyl hsw hi ok hg ht he hs).weak fun DD σ H h => lc_den hnd (asg_den hp h)
theorem cs_nil : PTs X [] (tB' T W (dCs C .nil)) := by
  refine ⟨fun pins s σ H Q I ⟨G, ρ, F, P, h⟩ => pts_nil.run pins s σ H Q I ?_⟩
  simp only [dCs] at h
  exact h H ⟨G, F, P.ev0⟩
theorem cs_one {c : Expr} {t : Mp.T} (h : PT X c (tB' T W (dT C t))) : PTs X [c] (tB' T W (dCs C (.one t))) := by
  refine ⟨fun pins s σ H Q I ⟨G, ρ, F, P, h'⟩ => (pts_one h).run pins s σ H Q I ?_⟩
  simp only [dCs] at h'
  exact ⟨G, ρ, F, P, h'⟩
end
end Mp
/-! Own exceptions: several clauses, with and without a name. -/
namespace Mp
open PySem PySem.Spec PyProof.Rows L2
/-- a clause: its class, the name's slot, its suite's reading -/
structure Clause where
  c : Value
  i : Option Nat
  ts : Addr → Value → Option Addr → TS
def endsAt (D : Ends) : Option Nat → Ends
  | none => D
  | some i => { nx := fun σ' H' => D.nx (σ'.set i none) H', rt := D.rt, bk := fun σ' H' => D.bk (σ'.set i none) H', ct := fun σ' H' => D.ct (σ'.set i none) H' }
def slotAt (a : Addr) (σ : L2.St) : Option Nat → L2.St
  | none => σ
  | some i => σ.set i (some (.ref a))
def wMix (K : PySem.W.Frag) (Wout : WX) (D : Ends) : List Clause → WX
  | [] => Wout
  | k :: r => fun cls d σ H => ∃ b, PySem.W.exmOne K cls k.c = some b ∧ (b = true → ∀ a, H a = none → k.ts a cls d (endsAt D k.i) (slotAt a σ k.i) H) ∧ (b = false → wMix K Wout D r cls d σ H)
inductive HdsM (X : Cx) : List ExceptHandler → List Clause → Prop
  | nil : HdsM X [] []
  | cons {x : Str} {c : Value} {ts : Addr → Value → Option Addr → TS} {b₀ : Stmt} {suite : List Stmt} {np pos' : Pos} {hds : List ExceptHandler} {l : List Clause} (hc : Names X x c)
      (hsu : ∀ (a : Addr) (oe : Obj) (cls : Value) (d : Option Addr) (pn : List (Addr × Obj)), Zc cls d oe → (∃ vs, oe.data = .fields vs) → PSs (X.suite a ((a, oe) :: pn)) (b₀ :: suite) (ts a cls d)) (r : HdsM X hds l) :
      HdsM X (.ExceptHandler (some (.Name x np)) none (b₀ :: suite) pos' :: hds) (⟨c, none, ts⟩ :: l)
  | as_ {x n : Str} {c : Value} {i : Nat} {ts : Addr → Value → Option Addr → TS} {b₀ : Stmt} {suite : List Stmt} {np pos' : Pos} {hds : List ExceptHandler} {l : List Clause} (hc : Names X x c) (hi : X.N[i]? = some n) (hln : X.env.kindOf n = some .local)
      (hsu : ∀ (a : Addr) (oe : Obj) (cls : Value) (d : Option Addr) (pn : List (Addr × Obj)), Zc cls d oe → (∃ vs, oe.data = .fields vs) → PSs (X.suite a ((a, oe) :: pn)) (b₀ :: suite) (ts a cls d)) (r : HdsM X hds l) :
      HdsM X (.ExceptHandler (some (.Name x np)) (some n) (b₀ :: suite) pos' :: hds) (⟨c, some i, ts⟩ :: l)
section
variable {X : Cx} {body : List Stmt} {h₀ : ExceptHandler} {hds : List ExceptHandler} {l : List Clause} {pos : Pos} {tb : WX → TS} {Wout : WX}
theorem ps_try_mix (hs : X.stack = X.env :: X.outer) (hf : X.env.frame = some X.env.locals) (hN : X.N.Nodup) (tk : Takes X Wout)
    (hb : ∀ (W : WX) (pn : List (Addr × Obj)) (xe : Value → Shared → Prop), Takes (X.tr pn xe) W → PassesOwn (model X.prog X.w) X.A X.env xe → PSs (X.tr pn xe) body (tb W))
    (hh : HdsM X (h₀ :: hds) l) : PS X (.Try body (h₀ :: hds) [] [] pos) (fun D σ H => tb (wMix X.K Wout D l) D σ H) := by
  refine ⟨fun pins s σ H D I h => ?_⟩
  have ok := I.ok
  have hfr : X.A.frames = some (X.env :: X.outer) := by rw [ok.frames, hs]
  refine wpAny_Try_except ?_
  refine wpAny_mono ((hb (wMix X.K Wout D l) (X.pn ++ pins) (fun e s₁ => wpAny (model X.prog X.w) X.A (noteFrame e X.env) (fun _ s₂ => wpAny (model X.prog X.w) X.A (setFlight e none) (fun _ s₃ =>
    wpAny (model X.prog X.w) X.A (handleBy e X.env (h₀ :: hds)) (SP X pins D) X.xe s₃) X.xe s₂) X.xe s₁) (fun u s' xx => ?_) PassesOwn.looking).run [] s σ H D (I.toTry _) h) (fun f s1 hsp => ?_) (fun e s1 he => he)
  · -- the catch
    obtain ⟨a, B, sI, pins', σ', H', cls, d, rfl, J', nb, up, sky, na, os, ag, w⟩ := xx
    have J : L2.Inv X pins σ' H' sI := J'.ofTry ok
    have sky' : Sky B (X.env :: X.outer) a (Zc cls d) X.env.locals s'.heap := by rw [← hs]; exact sky
    show wpAny (model X.prog X.w) X.A (noteFrame (.ref a) X.env) _ _ _
    refine Sky.land Zc.steady hfr hf sky' fun h3 fl3 up3 => ?_
    have J3 : L2.Inv X pins σ' H' { s' with heap := h3 } := J.landed nb fl3.1 (up.trans up3) os ag
    obtain ⟨oe3, vs3, he3, hz3, hd3⟩ := fl3.there
    have notFr : ∀ {h : Heap} {o : Obj} {vs : Array Value}, h.FunFrames B (X.env :: X.outer) → h.get? a = some o → o.data = .fields vs → a ∉ frs (X.env :: X.outer) := fun {h o vs} ff e dd hm => by
      obtain ⟨_, o', e', hnf⟩ := ff.mem hm
      rw [e] at e'; cases e'
      exact hnf _ dd
    have nfr := notFr fl3.2.2.1 he3 hd3
    have nL : a ≠ X.env.locals := fun z => nfr (List.mem_filterMap.mpr ⟨X.env, List.mem_cons_self, by rw [hf, z]⟩)
    have nF : a ∉ X.fs := fun hm => by
      obtain ⟨e, he, q⟩ := List.mem_filterMap.mp hm
      exact nfr (List.mem_filterMap.mpr ⟨e, List.mem_cons_of_mem _ he, q⟩)
    have S3 := J3.suite he3 hd3 na nL nF
    have go : ∀ {hds' : List ExceptHandler} {l' : List Clause}, HdsM X hds' l' → wMix X.K Wout D l' cls d σ' H' →
        wpAny (model X.prog X.w) X.A (handleBy (.ref a) X.env hds') (SP X pins D) X.xe { s' with heap := h3 } := by
      intro hds' l' hk
      induction hk with
      | nil =>
        intro w
        refine wpAny_handleBy_nil ?_
        obtain ⟨k1, k2, k3, oe, vs, T, oT, ts', he, hz, hd, h1, hr⟩ := id fl3
        unfold PySem.passOn
        refine wpAny_bind (wpAny_field he hd h1 ?_)
        rw [if_neg (show ¬ ((Value.ref T == Value.none) = true) from by simp)]
        have fin : wpAny (model X.prog X.w) X.A (setFlight (.ref a) X.env.frame) (fun _ s4 => wpAny (model X.prog X.w) X.A (throw (.ref a) : Sem Flow) (SP X pins D) X.xe s4) X.xe { s' with heap := h3 } := by
          rw [hf]
          refine HandSPX.setFlight_upZ fl3 fun h4 hh4 up4 => wpAny_throw (tk _ _ ?_)
          exact ⟨a, B, sI, pins, σ', H', cls, d, rfl, J, nb, (up.trans up3).trans up4, .inr (.inr (by rw [hs]; exact hh4)), na, os, ag, w⟩
        first
          | exact wpAny_bind (wpAny_pure (wpAny_bind fin))
          | exact wpAny_bind fin
      | @cons x c ts b₀ suite np pos' hds2 l2 hc hsu r ih =>
        intro w
        obtain ⟨b, hb1, hyes, hno⟩ := w
        refine wpAny_handleBy_cons (codeAny_handlers_test ?_) (by intro q; cases q)
        have LT : PySem.W.Looks (model X.prog X.w) h3 (typeOf (.ref a)) cls := fun A Q E s k q => wpAny_typeOf_ref (k _ _ he3) (by rw [hz3.1]; exact q)
        have LM := PySem.W.exm_one (M := model X.prog X.w) (J3.kIn) LT hb1
        have test : ∀ {Q : Value → Shared → Prop} {E : Value → Shared → Prop}, Q c { s' with heap := h3 } → wpAny (model X.prog X.w) (X.A.mark (some (.ref a))) (eval (.Name x np) X.env) Q E { s' with heap := h3 } := fun {Q E} q => by
          obtain ⟨hg, hdbg, hm | ⟨hm, hv, hnn⟩⟩ := hc
          · exact ld_glob (X := X.suite a ((a, oe3) :: (X.pn ++ pins))) S3 hg hm q hdbg
          · exact ld_blt (X := X.suite a ((a, oe3) :: (X.pn ++ pins))) S3 hg hm hv q hnn hdbg
        refine test (LM.here ?_)
        cases b with
        | true =>
          refine codeAny_handlers_suite ?_
          refine HandSPX.lands_againZ fl3 fun h4 fl4 up4 => ?_
          have J4 : L2.Inv X pins σ' H' { s' with heap := h4 } := J.landed nb fl4.1 ((up.trans up3).trans up4) os ag
          obtain ⟨oe4, vs4, he4, hz4, hd4⟩ := fl4.there
          have S4 := J4.suite he4 hd4 na nL nF
          refine wpAny_mono ((hsu a oe4 cls d (X.pn ++ pins) hz4 ⟨_, hd4⟩).run [] _ _ H' _ S4 (hyes rfl a na)) (fun f s6 hsp => ?_) (fun _ _ z => False.elim z)
          cases f with
          | next =>
            obtain ⟨σ6, H6, S6, q6⟩ := hsp
            exact ⟨_, _, S6.unsuite ok, q6⟩
          | brk =>
            obtain ⟨σ6, H6, S6, q6⟩ := hsp
            exact ⟨_, _, S6.unsuite ok, q6⟩
          | cont =>
            obtain ⟨σ6, H6, S6, q6⟩ := hsp
            exact ⟨_, _, S6.unsuite ok, q6⟩
          | ret u =>
            obtain ⟨v6, σ6, H6, S6, r6, q6⟩ := hsp
            exact ⟨_, _, _, S6.unsuite ok, r6, q6⟩
        | false =>
          show wpAny _ X.A (handleBy (.ref a) X.env hds2) _ _ _
          exact ih (hno rfl)
      | @as_ x n c i ts b₀ suite np pos' hds2 l2 hc hi hln hsu r ih =>
        intro w
        obtain ⟨b, hb1, hyes, hno⟩ := w
        refine wpAny_handleBy_cons (codeAny_handlers_test ?_) (by intro q; cases q)
        have LT : PySem.W.Looks (model X.prog X.w) h3 (typeOf (.ref a)) cls := fun A Q E s k q => wpAny_typeOf_ref (k _ _ he3) (by rw [hz3.1]; exact q)
        have LM := PySem.W.exm_one (M := model X.prog X.w) (J3.kIn) LT hb1
        have test : ∀ {Q : Value → Shared → Prop} {E : Value → Shared → Prop}, Q c { s' with heap := h3 } → wpAny (model X.prog X.w) (X.A.mark (some (.ref a))) (eval (.Name x np) X.env) Q E { s' with heap := h3 } := fun {Q E} q => by
          obtain ⟨hg, hdbg, hm | ⟨hm, hv, hnn⟩⟩ := hc
          · exact ld_glob (X := X.suite a ((a, oe3) :: (X.pn ++ pins))) S3 hg hm q hdbg
          · exact ld_blt (X := X.suite a ((a, oe3) :: (X.pn ++ pins))) S3 hg hm hv q hnn hdbg
        refine test (LM.here ?_)
        cases b with
        | true =>
          refine codeAny_handlers_suite_as ?_
          refine HandSPX.lands_againZ fl3 fun h4 fl4 up4 => ?_
          have J4 : L2.Inv X pins σ' H' { s' with heap := h4 } := J.landed nb fl4.1 ((up.trans up3).trans up4) os ag
          obtain ⟨oe4, vs4, he4, hz4, hd4⟩ := fl4.there
          have S4 := J4.suite he4 hd4 na nL nF
          refine store_ok (X := X.suite a ((a, oe4) :: (X.pn ++ pins))) (v := .ref a) S4 hN hi (.inl hln) rfl (fun s5 S5 => ?_) (.inr hln)
          refine wpAny_mono ((hsu a oe4 cls d (X.pn ++ pins) hz4 ⟨_, hd4⟩).run [] s5 _ H' _ S5 (hyes rfl a na)) (fun f s6 hsp => ?_) (fun _ _ z => False.elim z)
          have end_ : ∀ {σ6 : L2.St} {H6 : Hp} {Q : Shared → Prop}, L2.Inv (X.suite a ((a, oe4) :: (X.pn ++ pins))) [] σ6 H6 s6 → (∀ s7, L2.Inv X pins (σ6.set i none) H6 s7 → Q s7) →
              wpAny (model X.prog X.w) X.A (do bindName X.env n .none; unbindBehindTheSuite X.env n pos') (fun _ s7 => Q s7) X.xe s6 := fun {σ6 H6 Q} S6 hq => gone_ok (S6.unsuite ok) hN hi hln hq
          cases f with
          | next =>
            obtain ⟨σ6, H6, S6, q6⟩ := hsp
            exact end_ S6 fun s7 J7 => ⟨_, _, J7, q6⟩
          | brk =>
            obtain ⟨σ6, H6, S6, q6⟩ := hsp
            exact end_ S6 fun s7 J7 => ⟨_, _, J7, q6⟩
          | cont =>
            obtain ⟨σ6, H6, S6, q6⟩ := hsp
            exact end_ S6 fun s7 J7 => ⟨_, _, J7, q6⟩
          | ret u =>
            obtain ⟨v6, σ6, H6, S6, r6, q6⟩ := hsp
            exact end_ S6 fun s7 J7 => ⟨_, _, _, J7, r6, q6⟩
        | false =>
          show wpAny _ X.A (handleBy (.ref a) X.env hds2) _ _ _
          exact ih (hno rfl)
    exact go hh w
  · cases f with
    | next =>
      obtain ⟨σ', H', J', q⟩ := hsp
      exact wpAny_execs_nil ⟨σ', H', J'.ofTry ok, q⟩
    | brk =>
      obtain ⟨σ', H', J', q⟩ := hsp
      exact ⟨σ', H', J'.ofTry ok, q⟩
    | cont =>
      obtain ⟨σ', H', J', q⟩ := hsp
      exact ⟨σ', H', J'.ofTry ok, q⟩
    | ret u =>
      obtain ⟨v, σ', H', J', r, q⟩ := hsp
      exact ⟨v, σ', H', J'.ofTry ok, r, q⟩
end
end Mp
/-! Own exceptions: raise, try. -/
namespace Mp
open PySem L2

/-- what an own exception's __init__ promises -/
def spX (T : Tab) (c : Nat) : Sp := fun vs H Q E => ∃ a z, vs = [.ref a, .str z] ∧ z.length ≤ 1000 ∧ H a = some (exo a (T.xa c) none) ∧ ∀ d, H d = none → d ≠ a → Q .non (upd (upd H d (exd d [(T.xf c, .str z)])) a (exo a (T.xa c) (some d)))
/-- a class of exceptions that the code raises -/
structure Raiser (X : Cx) (T : Tab) (c : Nat) (x : Str) : Prop where
  ok : ∃ k fI fd ps, OexC X.K (T.xa c) ∧ PySem.W.findIn X.K (.ref (T.xa c)) "__init__" = some (some (.ref fI)) ∧ PySem.W.typeIn X.K (.ref fI) = some (.type "function") ∧ FnOk X.prog X.w X.K X.mg X.base (L2.CX X.prog X.w) k fI fd ps (spX T c) ∧ Room (k + 1) X.A ∧ Binds X.K fd ps [] ∧ X.mg x = some (.ref (T.xa c))
section
variable {X : Cx} {T : Tab} {W : WX} {C : Cfg} {pr : Nat → Bool} {x : Str} {c : Nat} {e : Expr} {p pos pos2 : Pos} {es : Es}
theorem passes_false : Passes (L2.CX X.prog X.w) X (fun _ _ _ => False) := fun pins σ H s e s' I ⟨a, B, H', cls, d, _, _, _, _, _, _, _, z⟩ => z.elim
theorem s_rs (rf : Raiser X T c x) (hcx : c < T.nx) (hc : X.calm = true) (tk : L2.Takes X W) (hg : Gl X x) (hdb : (x == ("__debug__" : Str)) = false) (ha : PA X [e] (tEs T W (dEs C es))) (pl : plainE e = true) :
    PS X (.Raise (some (.Call (.Name x p) [e] [] pos2)) none pos) (tS T W pr (dS C (.rs c es))) := by
  obtain ⟨k, fI, fd, ps, ox, iC, tI, F1, hr, hb, hm⟩ := rf.ok
  refine (L2.ps_raise hc tk (pmk_oex (p := p) (pos := pos2) ox iC tI F1 hr hb .nil passes_false hg hm ha hdb (star_cons pl [] X.env) rfl)).weak fun DD σ H ⟨G, ρ, F, P, h⟩ => ?_
  simp only [dS] at h
  refine ⟨G, ρ, F, P, h.then.imp (fun (ds, o) h vs H1 ⟨G1, Fv, F1, E, r⟩ => ?_) fun _ _ _ z => z⟩
  cases ds with
  | nil => exact h.elim
  | cons d ds => cases ds with
    | cons d2 ds => cases d <;> exact h.elim
    | nil => cases d with
      | str z =>
        have h : PostS T W pr DD G H F σ (match decide (z.length ≤ 1000) with | true => .exc c (.str z) (now ρ o) | false => .stuck) := h
        cases hz : decide (z.length ≤ 1000) with
        | false => rw [hz] at h; exact h.elim
        | true =>
          rw [hz] at h
          have hz := of_decide_eq_true hz
          obtain ⟨v, ws, A, B, rfl, rfl, rv, ⟨rfl, rfl⟩⟩ := r
          cases rv.str
          refine ⟨by simp, fun a ha => ⟨a, z, rfl, hz, upd_same, fun d hd ne => ⟨rfl, d, [(T.xf c, .str z)], upd_same, ?_, ?_, ?_⟩⟩⟩
          · rw [upd_ne ne, upd_same]
          · rw [upd_ne ne] at hd
            exact hd
          · rw [upd_ne ne] at hd
            have e : upd (L2.del (upd (upd (upd H1 a (exo a (T.xa c) none)) d (exd d [(T.xf c, .str z)])) a (exo a (T.xa c) (some d))) a) d (.xd [(T.xf c, .str z)]) = upd H1 d (.xd [(T.xf c, .str z)]) := by
              funext b
              by_cases hb : b = d
              · rw [hb, upd_same, upd_same]
              · rw [upd_ne hb, upd_ne hb]
                by_cases hb2 : b = a
                · rw [hb2, del_same, ha]
                · rw [del_ne hb2, upd_ne hb2, upd_ne hb, upd_ne hb2]
            rw [e]
            have s0 : Step G1 H1 [] (upd G1 d (.xd [(T.xf c, .str z)])) (upd H1 d (.xd [(T.xf c, .str z)])) [] := .newS E.step.h hd
            have E2 := E.nil.trans (fun _ z => nomatch z) (New.ev E.pre s0)
            exact h σ .refl _ d ⟨_, F1, E2.step, E.env.mono s0.g fun q hq u e => s0.keep q u e (fun z => nomatch z), .str z, upd_same, ⟨rfl, rfl⟩, rfl, hcx⟩
      | _ => exact h.elim
/-! ### suites -/
structure ExFacts (X : Cx) (T : Tab) (C : Cfg) : Prop where
  fld : ∀ c, T.xf c = T.xf 0
  xf : ∀ c, XfC X.K (T.xa c)
  no : ∀ c, PySem.W.findIn X.K (.ref (T.xa c)) (T.xf 0) = some none
  sub : ∀ c c', c < T.nx → c' < T.nx → PySem.W.exmOne X.K (.ref (T.xa c)) (.ref (T.xa c')) = some (C.sub c c')
/-- the caught exception -/
structure Caught (T : Tab) (G H : Hp) (σ : L2.St) (a : Addr) (i : Option Nat) (cls : Value) (d : Option Addr) (c : Nat) (x : D) : Prop where
  cl : cls = .ref (T.xa c)
  at_ : ∃ dd w, d = some dd ∧ G dd = some (.xd [(T.xf c, w)]) ∧ Rp T G H x w []
  ok : XOk T c x
  sl : ∀ j, i = some j → σ[j]? = some (some (.ref a))
def tXe (T : Tab) (C : Cfg) (a : Addr) (i : Option Nat) (cls : Value) (d : Option Addr) (xe : Xe) : TE := fun σ H Q => ∃ G c x y, Ext G H ∧ Caught T G H σ a i cls d c x ∧ dXe C c x xe = some y ∧ New T G H y Q
def tXS (T : Tab) (C : Cfg) (pr : Nat → Bool) (a : Addr) (i : Option Nat) (cls : Value) (d : Option Addr) (s : Xs) : TS := fun DD σ H => ∃ G ρ F c x, Pre T G H ρ σ F ∧ Caught T G H σ a i cls d c x ∧ PostS T WF pr DD G H F σ (dXs C c x s ρ)
theorem Caught.mono {G H G' H' : Hp} {σ : L2.St} {a : Addr} {i : Option Nat} {cls : Value} {d : Option Addr} {c : Nat} {x : D} (k : Caught T G H σ a i cls d c x) (hg : Ext G G') : Caught T G' H' σ a i cls d c x := by
  obtain ⟨cl, ⟨dd, w, e1, e2, e3⟩, ok, sl⟩ := k
  exact ⟨cl, ⟨dd, w, e1, hg _ _ e2, Rp.mono hg _ _ _ e3 (fun _ z => nomatch z)⟩, ok, sl⟩
variable {a : Addr} {oe : Obj} {cls : Value} {d : Option Addr} {pn : List (Addr × Obj)} {n : Str} {j : Nat} {i : Option Nat}
theorem x_what (ef : ExFacts X T C) (hN : X.N[j]? = some n) (hv : Vis X.env.scope n) (hd : (n == ("__debug__" : Str)) = false) (hcd : (n == ("__classdict__" : Str)) = false) (hz : L2.Zc cls d oe) (hf : ∃ vs, oe.data = .fields vs) :
    PE (X.suite a ((a, oe) :: pn)) (.Attribute (.Name n p) (T.xf 0) pos) (tXe T C a (some j) cls d .what) := by
  refine ⟨fun pins s σ H Q I ⟨G, c, x, y, ex, k, e, n'⟩ => ?_⟩
  have hn : PE (X.suite a ((a, oe) :: pn)) (.Name n p) (tVar j) := pe_var hN hv hd hcd
  refine (pe_xf (ef.xf c) (ef.no c) hz hf hn).run pins s σ H Q I ?_
  obtain ⟨dd, w, e1, e2, e3⟩ := k.at_
  refine ⟨.ref a, k.sl j rfl, rfl, k.cl, dd, [(T.xf c, w)], w, e1, ex _ _ e2, ?_, ?_⟩
  · rw [ef.fld c]
    simp
  · cases e
    exact n'.val ex e3
theorem x_str {z : Str} {k : _} : PE (X.suite a ((a, oe) :: pn)) (.Constant (.str z) k pos) (tXe T C a i cls d (.str z)) :=
  pe_str.weak fun σ H Q ⟨G, c, x, y, ex, k, e, n'⟩ => by cases e; exact n'.str ex
theorem x_bl {z : Bool} {k : _} : PE (X.suite a ((a, oe) :: pn)) (.Constant (.bool z) k pos) (tXe T C a i cls d (.bl z)) :=
  pe_bl.weak fun σ H Q ⟨G, c, x, y, ex, k, e, n'⟩ => by cases e; exact n'.bl ex
theorem x_pair {ea eb : Expr} {xa xb : Xe} {k : _} (ha : PE (X.suite a ((a, oe) :: pn)) ea (tXe T C a i cls d xa)) (hb : PE (X.suite a ((a, oe) :: pn)) eb (tXe T C a i cls d xb)) (pl : plainE ea = true) (pl2 : plainE eb = true) :
    PE (X.suite a ((a, oe) :: pn)) (.Tuple [ea, eb] k pos) (tXe T C a i cls d (.pair xa xb)) := by
  refine (pe_tup (pa_cons ha (pa_cons hb pa_nil (star_cons pl2 [] _)) (star_cons pl [eb] _))).weak fun σ H Q ⟨G, c, x, y, ex, k, e, n'⟩ => ?_
  have e : (match dXe C c x xa, dXe C c x xb with | some x, some y => some (.tup [x, y]) | _, _ => none) = some y := e
  split at e
  · rename_i y1 y2 e1 e2
    cases e
    refine ⟨G, c, x, y1, ex, k, e1, fun v H1 G1 Fv s1 r1 => ?_⟩
    refine ⟨G1, c, x, y2, s1.h, k.mono s1.g, e2, fun u H2 G2 Fu s2 r2 => ?_⟩
    refine ⟨by show 2 ≤ sizeLine; rw [sizeLine_eq]; omega, fun q hq => ?_⟩
    have m := s2.more (R := Fv) (Rp.trk _ _ _ r1) s1.gn s1.nd (fun _ _ z => nomatch z)
    rw [List.append_nil] at m
    have s12 := s1.trans m
    have s3 : Step G2 H2 [] (upd G2 q (.tup [v, u])) (upd H2 q (.tup [v, u])) [] := .newS s2.h hq
    have r1' : Rp T G2 H2 y1 v Fv := Rp.mono s2.g _ _ _ r1 fun a ha o q => s2.keep a o q (fun z => nomatch z)
    have rl : RpL T G2 H2 [y1, y2] [v, u] (Fv ++ Fu) := ⟨v, [u], Fv, Fu, rfl, rfl, r1', .one r2⟩
    have m3 := s3.more (R := Fv ++ Fu) (RpL.trk _ _ _ rl) s12.gn s12.nd (fun _ _ z => nomatch z)
    rw [List.append_nil] at m3
    exact n' (.ref q) _ _ (Fv ++ Fu) (s12.trans m3) ⟨q, [v, u], rfl, SqT.of upd_same, RpL.mono s3.g _ _ _ rl fun a _ o e => s3.keep a o e (fun z => nomatch z)⟩
  · cases e
theorem x_ret {ea : Expr} {xe : Xe} {σ : L2.St} (h : PE (X.suite a ((a, oe) :: pn)) ea (tXe T C a i cls d xe)) : PS (X.suite a ((a, oe) :: pn)) (.Return (some ea) pos) (tXS T C pr a i cls d (.ret xe)) := by
  refine (ps_ret h).weak fun DD σ H ⟨G, ρ, F, c, x, P, k, q⟩ => ?_
  simp only [dXs] at q
  cases e : dXe C c x xe with
  | none => simp only [e] at q; exact q.elim
  | some y =>
    simp only [e] at q
    exact ⟨G, c, x, y, P.ex, k, e, fun v H' G' Fv s r => q v σ H' ⟨G', Fv, F, (New.ev P s).step, r, (New.ev P s).env, .refl⟩⟩
theorem x_pass : PS (X.suite a ((a, oe) :: pn)) (.Pass pos) (tXS T C pr a i cls d .pass) := by
  refine ps_pass.weak fun DD σ H ⟨G, ρ, F, c, x, P, k, q⟩ => ?_
  simp only [dXs] at q
  exact q σ H P.okS
/-! ### try -/
theorem dXs_exc {c c' : Nat} {x x' : D} {r : Env} : ∀ {s : Xs} {ρ : Env}, dXs C c x s ρ ≠ .exc c' x' r
  | .ret e, ρ => by simp only [dXs]; split <;> simp
  | .app i e, ρ => by simp only [dXs]; split <;> (try split) <;> simp
  | .iff t e s, ρ => by
    simp only [dXs]
    split
    · split <;> simp
    · exact dXs_exc
  | .pass, ρ => by simp only [dXs]; simp
theorem RpE.forget2 {G H : Hp} {ρ : Env} {σ : L2.St} {F : List Addr} {i : Nat} (s0 : Option V) (re : RpE T G H ρ σ F) (nd : F.Nodup) : ∃ F', F'.Nodup ∧ (∀ a ∈ F', a ∈ F) ∧ RpE T G H (ρ.set i .gone) (σ.set i s0) F' := by
  by_cases hi : i < ρ.length
  · obtain ⟨s, A, R, es, pm, rs, put⟩ := re.focus hi
    obtain ⟨F', pm', re'⟩ := put (F1' := []) (d' := .gone) (s' := s0) (.refl _) (fun a ha o q => q) (.inl ⟨rfl, rfl⟩)
    rw [List.nil_append] at pm'
    exact ⟨F', pm'.nodup_iff.mpr (List.nodup_append.mp (pm.nodup_iff.mp nd)).2.1, fun a ha => pm.mem_iff.mpr (List.mem_append_right _ (pm'.mem_iff.mp ha)), re'⟩
  · rw [List.set_eq_of_length_le (by omega), List.set_eq_of_length_le (by rw [re.length]; omega)]
    exact ⟨F, nd, fun a ha => ha, re⟩
/-- the clauses of the text are those of the den -/
inductive HsOk (X : Cx) (T : Tab) (C : Cfg) (pr : Nat → Bool) : List ExceptHandler → Hs → List Clause → Prop
  | nil : HsOk X T C pr [] .nil []
  | cons {h : ExceptHandler} {hds : List ExceptHandler} {c : Nat} {i : Option Nat} {s : Xs} {hs : Hs} {l : List Clause} {k : Clause} (hk : HdsM X [h] [k]) (e1 : k.c = .ref (T.xa c)) (e2 : k.i = i) (e3 : k.ts = fun a cls d => tXS T C pr a i cls d s) (hcx : c < T.nx)
      (hp : ∀ j, i = some j → pr j = false ∧ j < X.N.length) (r : HsOk X T C pr hds hs l) : HsOk X T C pr (h :: hds) (.cons c i s hs) (k :: l)
theorem HsOk.hds {hds : List ExceptHandler} {hs : Hs} {l : List Clause} (h : HsOk X T C pr hds hs l) : HdsM X hds l := by
  induction h with
  | nil => exact .nil
  | cons hk e1 e2 e3 hcx hp r ih =>
    cases hk with
    | cons hc hsu _ => exact .cons hc hsu ih
    | as_ hc hi hln hsu _ => exact .as_ hc hi hln hsu ih
theorem hs_ok (ef : ExFacts X T C) {hds : List ExceptHandler} {hs : Hs} {l : List Clause} (hh : HsOk X T C pr hds hs l) {DD : Ends} {G H : Hp} {F : List Addr} {σ : L2.St} {c : Nat} {x : D} {ρ' : Env} (hl : σ.length = X.N.length) (h : PostS T W pr DD G H F σ (dHs C hs c x ρ')) :
    ∀ σ', Kp pr σ σ' → Xi T (wMix X.K W DD l) G H F σ' c x ρ' := by
  induction hh with
  | nil =>
    simp only [dHs] at h
    exact h
  | @cons hd hds c' i s hs l k hk e1 e2 e3 hcx hp r ih =>
    intro σ' kp H' dd ok
    obtain ⟨G', F', st, re, w, hdd, rx, xo⟩ := id ok
    simp only [dHs] at h
    refine ⟨C.sub c c', by rw [e1]; exact ef.sub c c' xo.2 hcx, fun hb a ha => ?_, fun hb => ?_⟩
    · rw [hb] at h
      rw [e3, e2]
      cases i with
      | none =>
        have h : PostS T W pr DD G H F σ (dXs C c x s ρ') := h
        refine ⟨G', ρ', F', c, x, ⟨st.h, re, st.nd, st.gn⟩, ⟨rfl, ⟨dd, w, rfl, hdd, rx⟩, xo, fun j z => nomatch z⟩, ?_⟩
        have h2 := PostS.mono st kp h
        show PostS T WF pr DD G' H' F' σ' (dXs C c x s ρ')
        cases ed : dXs C c x s ρ' with
        | exc c2 x2 r2 => exact absurd ed dXs_exc
        | _ => rw [ed] at h2; exact h2
      | some j =>
        have h : PostS T W pr DD G H F σ ((dXs C c x s (ρ'.set j .gone)).mapE fun r => r.set j .gone) := h
        obtain ⟨pj, lj⟩ := hp j rfl
        obtain ⟨F3, n3, s3, re3⟩ := re.forget2 (i := j) (some (V.ref a)) st.nd
        have st3 : Step G H F G' H' F3 := st.less n3 s3
        have kp3 : Kp pr σ (σ'.set j (some (V.ref a))) := kp.trans (.set pj)
        have slj : (σ'.set j (some (V.ref a)))[j]? = some (some (V.ref a)) := by
          rw [List.getElem?_set_self]
          rw [kp.1, hl]; exact lj
        refine ⟨G', ρ'.set j .gone, F3, c, x, ⟨st3.h, re3, st3.nd, st3.gn⟩, ⟨rfl, ⟨dd, w, rfl, hdd, rx⟩, xo, fun j' z => by cases z; exact slj⟩, ?_⟩
        show PostS T WF pr (endsAt DD (some j)) G' H' F3 (σ'.set j (some (V.ref a))) (dXs C c x s (ρ'.set j .gone))
        have fin : ∀ {r : Env} {σ2 : L2.St} {H2 : Hp}, OkS T pr G' H' F3 (σ'.set j (some (V.ref a))) r σ2 H2 → OkS T pr G H F σ (r.set j .gone) (σ2.set j none) H2 := fun {r σ2 H2} ⟨G2, F2, s2, re2, k2⟩ => by
          obtain ⟨F4, n4, s4, re4⟩ := re2.forget2 (i := j) none s2.nd
          exact ⟨G2, F4, (st3.trans s2).less n4 s4, re4, (kp3.trans k2).trans (.set pj)⟩
        cases ed : dXs C c x s (ρ'.set j .gone) with
        | exc c2 x2 r2 => exact absurd ed dXs_exc
        | nx r => rw [ed] at h; exact fun σ2 H2 q => h _ H2 (fin q)
        | bk r => rw [ed] at h; exact fun σ2 H2 q => h _ H2 (fin q)
        | ct r => rw [ed] at h; exact fun σ2 H2 q => h _ H2 (fin q)
        | ret d r =>
          rw [ed] at h
          intro v σ2 H2 ⟨G2, Fv, F2, s2, rv, re2, k2⟩
          obtain ⟨b1, b2, b3⟩ := List.nodup_append.mp s2.nd
          obtain ⟨F4, n4, s4, re4⟩ := re2.forget2 (i := j) none b2
          refine h v (σ2.set j none) H2 ⟨G2, Fv, F4, (st3.trans s2).less (List.nodup_append.mpr ⟨b1, n4, fun a ha b hb => b3 a ha b (s4 b hb)⟩) fun a ha => ?_, rv, re4, (kp3.trans k2).trans (.set pj)⟩
          rcases List.mem_append.mp ha with z | z
          · exact List.mem_append_left _ z
          · exact List.mem_append_right _ (s4 a z)
        | stuck => rw [ed] at h; exact h.elim
    · rw [hb] at h
      exact ih h σ' kp H' dd ok
theorem s_try {body : List Stmt} {h₀ : ExceptHandler} {hds : List ExceptHandler} {l : List Clause} {b : Ss} {hs : Hs} (ef : ExFacts X T C) (hst : X.stack = X.env :: X.outer) (hf : X.env.frame = some X.env.locals) (hN : X.N.Nodup) (tk : L2.Takes X W)
    (hb : ∀ (W : WX) (pn : List (Addr × Obj)) (xe : Value → Shared → Prop), L2.Takes (X.tr pn xe) W → PassesOwn (model X.prog X.w) X.A X.env xe → PSs (X.tr pn xe) body (tS T W pr (dSs C b)))
    (hh : HsOk X T C pr (h₀ :: hds) hs l) : PS X (.Try body (h₀ :: hds) [] [] pos) (tS T W pr (dS C (.try_ b hs))) := by
  refine ⟨fun pins s σ H DD I h => (ps_try_mix (tb := fun W => tS T W pr (dSs C b)) hst hf hN tk hb hh.hds).run pins s σ H DD I ?_⟩
  obtain ⟨G, ρ, F, P, h⟩ := h
  simp only [dS] at h
  refine ⟨G, ρ, F, P, ?_⟩
  cases e : dSs C b ρ with
  | exc c x ρ' => rw [e] at h; exact hs_ok ef hh I.len h
  | _ => rw [e] at h; exact h
end
end Mp
/-! list(range(..)). -/
namespace Mp
open PySem L2

def rngF (ds : List D) : Option D := match rngD ds with
  | none => none
  | some r => if r.length ≤ line then some (.lst true r) else none
section
variable {X : Cx} {T : Tab} {W : WX} {C : Cfg} {ea eb : Expr} {pos p p2 q : Pos} {a b : O} {σ : L2.St} {H : Hp} {Q : VK}
theorem rng1_den (h : tE T W (dE C (.rng (.cons a .nil))) σ H Q) : tE T W (fun ρ => (dO C a ρ).bind fun (x, o) => op1 (fun d => rngF [d]) x o ρ) σ H Q := by
  obtain ⟨G, ρ, F, P, h⟩ := h
  refine ⟨G, ρ, F, P, ?_⟩
  simp only [dE, dOs] at h
  show Post ((dO C a ρ).bind fun (x, o) => op1 (fun d => rngF [d]) x o ρ) _ _
  cases ea : dO C a ρ with
  | ok q =>
    obtain ⟨x, o⟩ := q
    simp only [ea, R.bind, Option.isNone_none, Bool.or_true, orE, rdL] at h ⊢
    unfold op1
    cases er : x.rd (now ρ o) with
    | none => simp only [er] at h; exact h.elim
    | some d =>
      simp only [er] at h ⊢
      unfold rngF
      cases eg : rngD [d] with
      | none => simp only [eg] at h; exact h.elim
      | some r =>
        simp only [eg] at h ⊢
        split at h
        · rename_i hl
          rw [if_pos hl]
          exact h
        · exact h.elim
  | exc c x r => simp only [ea, R.bind] at h ⊢; exact h
  | stuck => simp only [ea, R.bind] at h; exact h.elim
theorem rng2_den (h : tE T W (dE C (.rng (.cons a (.cons b .nil)))) σ H Q) : tE T W (fun ρ => (dO C a ρ).bind fun (x, o1) => (dO C b (now ρ o1)).bind fun (y, o2) => op2 (fun x y => rngF [x, y]) x y o1 o2 ρ) σ H Q := by
  obtain ⟨G, ρ, F, P, h⟩ := h
  refine ⟨G, ρ, F, P, ?_⟩
  simp only [dE, dOs] at h
  show Post ((dO C a ρ).bind fun (x, o1) => (dO C b (now ρ o1)).bind fun (y, o2) => op2 (fun x y => rngF [x, y]) x y o1 o2 ρ) _ _
  cases ea : dO C a ρ with
  | ok q =>
    obtain ⟨x, o⟩ := q
    simp only [ea, R.bind] at h ⊢
    cases eb : dO C b (now ρ o) with
    | ok q2 =>
      obtain ⟨y, o2⟩ := q2
      simp only [eb, R.bind, Option.isNone_none, Bool.or_true, orE_none] at h ⊢
      unfold op2
      cases fm : (x.firm || o2.isNone) with
      | false => simp only [fm] at h; exact h.elim
      | true =>
        simp only [fm, rdL, ← now_now] at h ⊢
        cases er : x.rd (now (now ρ o) o2) with
        | none => simp only [er] at h; exact h.elim
        | some d =>
          cases er2 : y.rd (now (now ρ o) o2) with
          | none => simp only [er, er2] at h; exact h.elim
          | some d2 =>
            simp only [er, er2] at h ⊢
            unfold rngF
            cases eg : rngD [d, d2] with
            | none => simp only [eg] at h; exact h.elim
            | some r =>
              simp only [eg] at h ⊢
              split at h
              · rename_i hl
                rw [if_pos hl]
                exact h
              · exact h.elim
    | exc c x r => simp only [eb, R.bind] at h ⊢; exact h
    | stuck => simp only [eb, R.bind] at h; exact h.elim
  | exc c x r => simp only [ea, R.bind] at h ⊢; exact h
  | stuck => simp only [ea, R.bind] at h; exact h.elim
theorem rngL_length : ∀ (n : Nat) (lo : Int), (rngL lo n).length = n
  | 0, _ => rfl
  | n + 1, lo => by simp only [rngL, List.length_cons, rngL_length n]
theorem rng_end {G H : Hp} {i j : Int} {Q : VK} {d : D} (ex : Ext G H) (e : (if okR i && okR j then some (rngL i (j - i).toNat) else none) = some (rngL i (j - i).toNat)) (hl : (rngL i (j - i).toNat).length ≤ line) (n : New T G H (.lst true (rngL i (j - i).toNat)) Q) : RgOk i j ∧ ∀ q, H q = none → Q (.ref q) (upd H q (.lst (rgV i j))) := by
  split at e
  · rename_i h
    simp only [okR_eq] at h
    unfold two62 at h
    simp only [Bool.and_eq_true, decide_eq_true_eq] at h
    rw [rngL_length] at hl
    have e2 : line = 2 ^ 24 := rfl
    refine ⟨⟨?_, ?_, ?_, ?_, by omega⟩, fun q hq => n.lst ex (RpL.rng _ i) hq⟩
    · have := h.1.1; omega
    · have := h.1.2; omega
    · have := h.2.1; omega
    · have := h.2.2; omega
  · cases e
theorem e_rng1 (hc : X.calm = true) (hg : Gl X "list") (hm : X.mg "list" = none) (hg2 : Gl X "range") (hm2 : X.mg "range" = none) (ha : PE X ea (tO T W (dO C a))) (pl : plainE ea = true) :
    PE X (.Call (.Name "list" p) [.Call (.Name "range" p2) [ea] [] q] [] pos) (tE T W (dE C (.rng (.cons a .nil)))) := by
  refine (pe_listRg hc hg hm (prg_1 hg2 hm2 ha (star_cons pl [] X.env)) (star_cons rfl [] X.env)).weak fun σ H Q h => ?_
  refine (un_den (sem_op1 T _) (rng1_den h)).mono fun v H1 z => ?_
  obtain ⟨G, dx, d, Fx, ex, qx, e, n⟩ := z
  cases dx with
  | int j =>
    have e0 : rngD [.int j] = if okR j then some (rngL 0 j.toNat) else none := rfl
    have e : rngF [.int j] = some d := e
    unfold rngF at e
    rw [e0] at e
    cases hj : okR j with
    | false => simp only [hj] at e; cases e
    | true =>
      simp only [hj, if_true] at e
      split at e
      · rename_i hl
        cases e
        refine ⟨j, qx.int, ?_⟩
        have e3 : (j - 0).toNat = j.toNat := by simp
        have := rng_end (i := 0) (j := j) (d := .non) ex (by rw [hj, e3]; rfl) (by rw [e3]; exact hl) (by rw [e3]; exact n)
        exact this
      · cases e
  | _ => cases e
theorem e_rng2 (hc : X.calm = true) (hg : Gl X "list") (hm : X.mg "list" = none) (hg2 : Gl X "range") (hm2 : X.mg "range" = none) (ha : PE X ea (tO T W (dO C a))) (hb : PE X eb (tO T W (dO C b))) (pl : plainE ea = true) (pl2 : plainE eb = true) :
    PE X (.Call (.Name "list" p) [.Call (.Name "range" p2) [ea, eb] [] q] [] pos) (tE T W (dE C (.rng (.cons a (.cons b .nil))))) := by
  refine (pe_listRg hc hg hm (prg_2 hg2 hm2 ha hb (star_cons pl [eb] X.env) (star_cons pl2 [] X.env) (star_any (by simp [pl2]) X.env q)) (star_cons rfl [] X.env)).weak fun σ H Q h => ?_
  refine (bi_den (sem_op2 T _) (rng2_den h)).mono fun v H1 z => z.mono fun u H2 z => ?_
  obtain ⟨G, dx, dy, d, Fx, Fy, ex, qx, qy, e, n⟩ := z
  cases dx with
  | int i => cases dy with
    | int j =>
      have e0 : rngD [.int i, .int j] = if okR i && okR j then some (rngL i (j - i).toNat) else none := rfl
      have e : rngF [.int i, .int j] = some d := e
      unfold rngF at e
      rw [e0] at e
      cases hj : (okR i && okR j) with
      | false => simp only [hj] at e; cases e
      | true =>
        simp only [hj, if_true] at e
        split at e
        · rename_i hl
          cases e
          exact ⟨i, j, qx.int, qy.int, rng_end (d := .non) ex (by rw [hj]; rfl) hl n⟩
        · cases e
    | _ => cases e
  | _ => cases e
end
end Mp
/-! More rules: xs[::-1], insert, remove, enumerate. -/
namespace Mp
open PySem L2
section
variable {X : Cx} {T : Tab} {W : WX} {C : Cfg} {ea eb tg : Expr} {pos p : Pos}
theorem e_frz {a : E} (h : PE X ea (tE T W (dE C a))) : PE X ea (tE T W (dE C (.frz a))) := by
  refine h.weak fun σ H Q ⟨G, ρ, F, P, h⟩ => ?_
  simp only [dE] at h
  refine ⟨G, ρ, F, P, h.bind.imp (fun (d, o) h v H1 ⟨G1, Fv, F1, E, r⟩ => ?_) fun _ _ _ z => z⟩
  simp only at h r E
  cases hf : fzable d with
  | false => simp only [hf] at h; exact h.elim
  | true =>
    simp only [hf] at h
    exact h v H1 ⟨_, [], F1, E.freeze (Fw := Fv) (fun _ z => z), Rp.fz (lay_ext E.step.h) d v Fv hf r lay_get⟩
theorem e_rev {a : O} {k : Nat} {p1 p2 p3 : Pos} (hK : X.K = T.K) (ha : PE X ea (tO T W (dO C a))) : PE X (.Subscript ea (.Slice none none (some (.UnaryOp .USub (.Constant (.int 1) k p1) p2)) p3) pos) (tE T W (dE C (.rev a))) := by
  refine (pe_revL ha).weak fun σ H Q h => ?_
  simp only [dE] at h
  refine (un_den (sem_op1 T revD) h).mono fun v H1 z => ?_
  obtain ⟨G, dx, d, Fx, ex, qx, e, n⟩ := z
  unfold revD at e
  split at e
  · split at e
    · rename_i hs
      cases e
      obtain ⟨q, vs, F', rfl, hp, r1⟩ := qx.lst ex
      have r2 : RpL T G H1 _ vs [] := RpL.sh hs r1 (.refl _)
      obtain ⟨F2, pm, r3⟩ := RpL.rev r2
      have e2 : F2 = [] := pm.eq_nil
      subst e2
      exact ⟨q, vs, rfl, .inl (.inl hp), fun u hu => n.lst ex r3 hu⟩
    · cases e
  · cases e
end
section
variable {T : Tab}
theorem RpL.cutAt {G H : Hp} : ∀ (n : Nat) {xs : List D} {vs : List V} {F : List Addr}, RpL T G H xs vs F → ∃ A B, F = A ++ B ∧ RpL T G H (xs.take n) (vs.take n) A ∧ RpL T G H (xs.drop n) (vs.drop n) B
  | 0, xs, vs, F, h => ⟨[], F, rfl, ⟨rfl, rfl⟩, h⟩
  | n + 1, [], vs, F, h => by obtain ⟨rfl, rfl⟩ := h; exact ⟨[], [], rfl, ⟨rfl, rfl⟩, ⟨rfl, rfl⟩⟩
  | n + 1, x :: xs, vs, F, h => by
    obtain ⟨v, ws, F1, F2, rfl, rfl, r, h⟩ := h
    obtain ⟨A, B, rfl, r1, r2⟩ := RpL.cutAt n h
    exact ⟨F1 ++ A, B, by rw [List.append_assoc], ⟨v, _, F1, A, rfl, rfl, r, r1⟩, r2⟩
theorem bm_insert : BmOk T .insert (fun x vs H Q => ∃ (l : Addr) (xs : List V) (i : Int) (y : V), x = .ref l ∧ vs = [.int i, y] ∧ H l = some (.lst xs) ∧ xs.length < sizeLine ∧ 0 ≤ i ∧ i < 2 ^ 63 ∧ Q .non (upd H l (.lst (xs.take i.toNat ++ [y] ++ xs.drop i.toNat)))) := by
  intro G H d d' y x xs us Fa F1 Q ex rd ra e nd gn k
  unfold bmD at e
  split at e <;> first | contradiction | cases e | skip
  · split at e
    · rename_i i z _ hl
      cases e
      simp only [Bool.and_eq_true, decide_eq_true_eq] at hl
      obtain ⟨l, vs, F', rfl, hp, rl, ef⟩ := rd
      obtain ⟨u0, ws0, Fu0, Fw0, rfl, rfl, ru0, ra1⟩ := ra
      obtain ⟨u, ws, Fu, Fw, rfl, rfl, ru, ⟨rfl, rfl⟩⟩ := ra1
      obtain ⟨rfl, rfl⟩ := ru0
      rw [List.append_nil, List.nil_append] at nd gn k
      obtain ⟨n1, n2, n3⟩ := List.nodup_append.mp nd
      have hlF : l ∈ F1 := by rw [ef]; exact List.mem_cons_self
      have hnF : l ∉ F' := by rw [ef] at n2; exact (List.nodup_cons.mp n2).1
      have hnU : l ∉ Fu := fun z => n3 l z l hlF rfl
      refine ⟨l, vs, i, u, rfl, rfl, hp, by rw [rl.length, ← line_eq]; exact hl.1.1, hl.1.2, by omega, ?_⟩
      obtain ⟨A, B, rfl, rA, rB⟩ := rl.cutAt i.toNat
      have hnA : l ∉ A := fun z => hnF (List.mem_append_left _ z)
      have hnB : l ∉ B := fun z => hnF (List.mem_append_right _ z)
      rw [ef] at n2 n3
      obtain ⟨m1, m2, m3⟩ := List.nodup_append.mp (List.nodup_cons.mp n2).2
      have rl2 : RpL T G (upd H l (.lst (vs.take i.toNat ++ [u] ++ vs.drop i.toNat))) _ (vs.take i.toNat ++ [u] ++ vs.drop i.toNat) ((A ++ Fu) ++ B) := ((rA.upd hnA).append (.one (ru.upd hnU))).append (rB.upd hnB)
      refine k .non G _ [] (l :: ((A ++ Fu) ++ B)) (Step.write ex gn hp (List.mem_append_right _ hlF) ?_ ?_) ⟨rfl, rfl⟩ ⟨l, _, (A ++ Fu) ++ B, rfl, upd_same, ?_, rfl⟩
      · rw [List.nil_append]
        have dj : ∀ a ∈ Fu, ∀ b ∈ A ++ B, a ≠ b := fun a ha b hb => n3 a ha b (List.mem_cons_of_mem _ hb)
        refine List.nodup_cons.mpr ⟨fun z => ?_, List.nodup_append.mpr ⟨List.nodup_append.mpr ⟨m1, n1, fun a ha b hb e => dj b hb a (List.mem_append_left _ ha) e.symm⟩, m2, fun a ha b hb => ?_⟩⟩
        · rcases List.mem_append.mp z with z | z
          · rcases List.mem_append.mp z with z | z
            · exact hnA z
            · exact hnU z
          · exact hnB z
        · rcases List.mem_append.mp ha with z | z
          · exact m3 a z b hb
          · exact dj a z b (List.mem_append_right _ hb)
      · intro a ha
        rw [List.nil_append] at ha
        rcases List.mem_cons.mp ha with z | z
        · rw [z]; exact List.mem_append_right _ hlF
        · rcases List.mem_append.mp z with z | z
          · rcases List.mem_append.mp z with z | z
            · exact List.mem_append_right _ (by rw [ef]; exact List.mem_cons_of_mem _ (List.mem_append_left _ z))
            · exact List.mem_append_left _ z
          · exact List.mem_append_right _ (by rw [ef]; exact List.mem_cons_of_mem _ (List.mem_append_right _ z))
      · simpa only [List.append_assoc, List.singleton_append] using rl2
    · cases e
theorem toInts_eq : ∀ {xs : List D} {ns : List Int}, toInts xs = some ns → xs = ns.map D.int
  | [], ns, e => by cases e; rfl
  | x :: xs, ns, e => by
    cases x with
    | int i =>
      simp only [toInts] at e
      split at e
      · rename_i r er
        cases e
        rw [toInts_eq er]
        rfl
      · cases e
    | _ => cases e
theorem RpL.intsF {G H : Hp} : ∀ {xs : List D} {vs : List V} {F : List Addr} {ns : List Int}, RpL T G H xs vs F → toInts xs = some ns → F = []
  | [], vs, F, ns, h, e => by obtain ⟨_, rfl⟩ := h; rfl
  | x :: xs, vs, F, ns, h, e => by
    obtain ⟨v, ws, F1, F2, rfl, rfl, r, h⟩ := h
    cases x with
    | int i =>
      simp only [toInts] at e
      split at e
      · rename_i rr er
        cases e
        obtain ⟨_, rfl⟩ := r
        rw [RpL.intsF h er]
        rfl
      · cases e
    | _ => cases e
theorem erase_map_int : ∀ (ns : List Int) (n : Nat), (ns.map D.int).eraseIdx n = (ns.eraseIdx n).map D.int
  | [], n => by simp
  | x :: xs, 0 => by simp
  | x :: xs, n + 1 => by simp [erase_map_int xs n]
theorem idx_spec {ns : List Int} {k : Int} {n : Nat} (e : ns.idxOf? k = some n) : ns[n]? = some k ∧ ∀ m : Nat, m < n → ns[m]? ≠ some k := by
  induction ns generalizing n with
  | nil => simp at e
  | cons x xs ih =>
    rw [List.idxOf?_cons] at e
    split at e
    · rename_i hx
      cases e
      have : x = k := by simpa using hx
      subst this
      exact ⟨rfl, fun m hm => by omega⟩
    · rename_i hx
      cases e2 : xs.idxOf? k with
      | none => rw [e2] at e; cases e
      | some j =>
        rw [e2] at e
        have e : some (j + 1) = some n := e
        cases e
        obtain ⟨h1, h2⟩ := ih e2
        refine ⟨by simpa using h1, fun m hm => ?_⟩
        cases m with
        | zero =>
          intro z
          simp at z
          exact hx (by simp [z])
        | succ m => simpa using h2 m (by omega)
theorem bm_remove : BmOk T .remove rRemI := by
  intro G H d d' y x xs us Fa F1 Q ex rd ra e nd gn k
  unfold bmD at e
  split at e <;> first | contradiction | cases e | skip
  · split at e
    · rename_i kk _ _ ns et
      split at e
      · rename_i n en
        cases e
        obtain ⟨l, vs, F', rfl, hp, rl, ef⟩ := rd
        obtain ⟨u0, ws0, Fu0, Fw0, rfl, rfl, ru0, ⟨rfl, rfl⟩⟩ := ra
        obtain ⟨rfl, rfl⟩ := ru0
        rw [List.append_nil, List.nil_append] at nd gn k
        have ev := RpL.toI rl et
        subst ev
        have hF : F' = [] := by
          have q := RpL.ofInts (T := T) (G := G) (H := H) ns
          exact RpL.intsF rl et
        subst hF
        subst ef
        obtain ⟨hn, hno⟩ := idx_spec en
        refine ⟨l, ns, kk, n, rfl, rfl, hp, hn, hno, ?_⟩
        have re : RpL T G (upd H l (.lst ((ns.eraseIdx n).map V.int))) _ ((ns.eraseIdx n).map V.int) [] := RpL.ofInts (ns.eraseIdx n)
        have exs := toInts_eq et
        subst exs
        refine k .non G _ [] [l] (Step.write ex gn hp (by simp) (by simp) (fun a ha => by simpa using ha)) ⟨rfl, rfl⟩ ⟨l, _, [], rfl, upd_same, ?_, rfl⟩
        rw [erase_map_int]
        exact re
      · cases e
    · cases e
end
end Mp
/-! A name for a part of a list that is changed through it. -/
namespace Mp
open PySem L2
theorem seq_nil (r : SR) : r.seq (fun ρ' => .nx ρ') = r := by cases r <;> rfl
section
variable {X : Cx} {T : Tab} {W : WX} {C : Cfg} {pr : Nat → Bool} {et ea : Expr} {rs : List Stmt} {pos : Pos}
def prW (pr : Nat → Bool) (i j : Nat) : Nat → Bool := fun x => pr x || decide (x = i) || decide (x = j)
theorem prW_le {i j : Nat} {σ σ' : L2.St} (h : Kp (prW pr i j) σ σ') : Kp pr σ σ' := ⟨h.1, fun x hx => h.2 x (by unfold prW; rw [hx]; rfl)⟩
theorem ss_with {j i : Nat} {e : E} {body : Ss} (he : PE X ea (tO T W (dP C (.ix (.var i) e)))) (hg : PG X et (gName j)) (hj : pr j = false) (hs : swapsWithSole [et] ea pos.line X.env = pure false) (hw : swappedStores [et] ea X.env = pure none) (pl : plainE et = true)
    (hb : PSs X rs (tS T W (prW pr i j) (dSs C body))) : PSs X (.Assign [et] ea pos :: rs) (tS T W pr (dSs C (.cons (.with_ j i e body) .nil))) := by
  refine (pss_cons (ps_asg he hg hs hw (asg_cons pl [] X.env)) hb).weak fun DD σ H ⟨G, ρ, F, P, h⟩ => ?_
  simp only [dSs, seq_nil, dS] at h
  refine ⟨G, ρ, F, P, h.then.imp (fun (a, o) h v H1 ⟨G1, Fv, F1, E, t⟩ => ?_) fun _ _ _ z => z⟩
  simp only at h t E
  cases a with
  | tm _ => exact h.elim
  | pl i' π =>
    simp only at h
    cases et : takeW (now ρ o) j i i' π with
    | none => simp only [et] at h; exact h.elim
    | some q =>
      obtain ⟨n, ys⟩ := q
      simp only [et] at h
      obtain ⟨rfl, va⟩ := t
      unfold takeW at et
      split at et
      rotate_left
      · cases et
      rename_i hij
      rw [Bool.and_eq_true, decide_eq_true_eq, decide_eq_true_eq] at hij
      obtain ⟨e1, hne⟩ := hij
      subst e1
      split at et
      rotate_left
      · cases et
      rename_i xs n' es _
      split at et
      rotate_left
      · cases et
      rename_i ys' ex
      cases et
      -- the container, the part
      obtain ⟨vi, evi, pv⟩ := va
      have hi : i < (now ρ o).length := by
        rw [← E.env.length]
        exact (List.getElem?_eq_some_iff.mp evi).1
      obtain ⟨s, A, R, es1, pm, rsl, put⟩ := E.env.focus hi
      rw [evi] at es1
      cases es1
      rw [es] at rsl pv
      have rd : Rp T G1 H1 (.lst true xs) vi A := by
        rcases rsl with ⟨z, _⟩ | ⟨w, ew, r⟩
        · cases z
        · cases ew; exact r
      have egp : getP (.lst true xs) [n] = some (.lst true ys) := by
        unfold getP
        simp only [kids, ex]
        rfl
      obtain ⟨u, Fc, Rc, pvu, pmc, rc, putc⟩ := rd.focus egp
      have euv : u = v := PV.uniq (d := .lst true xs) (v := vi) (F := A) pvu pv
      subst euv
      obtain ⟨R', pmR, re1⟩ := put (G' := G1) (H' := H1) (d' := .gone) (s' := some vi) (F1' := []) (.refl _) (fun _ _ _ q => q) (.inl ⟨rfl, rfl⟩)
      rw [set_same evi] at re1
      rw [List.nil_append] at pmR
      -- frames
      have nd1 : F1.Nodup := E.pre.nd
      have pm3 : F1.Perm (Rc ++ (Fc ++ R')) := by
        refine pm.trans ((pmc.append_right R).trans ?_)
        refine (List.perm_append_comm.append_right R).trans ?_
        rw [List.append_assoc]
        exact (pmR.symm.append_left Fc).append_left Rc
      have nd3 := pm3.nodup_iff.mp nd1
      obtain ⟨a1, a2, a3⟩ := List.nodup_append.mp nd3
      obtain ⟨F', nF, subF, re2⟩ := RpE.store (i := j) re1 a2 rc
      have dj : ∀ a ∈ Rc, a ∉ F' := fun a ha hb => a3 a ha a (subF a hb) rfl
      have gn3 : ∀ a ∈ Rc ++ (Fc ++ R'), G1 a = none := fun a ha => E.pre.gn a (pm3.mem_iff.mpr ha)
      have S1 : Step G H F G1 H1 (Rc ++ F') := by
        refine E.step.less (List.nodup_append.mpr ⟨a1, nF, fun a ha b hb e => dj a ha (e ▸ hb)⟩) fun a ha => ?_
        rw [List.nil_append]
        refine pm3.mem_iff.mpr ?_
        rcases List.mem_append.mp ha with z | z
        · exact List.mem_append_left _ z
        · exact List.mem_append_right _ (subF a z)
      refine ⟨G1, ((now ρ o).set i .gone).set j (.lst true ys), F', ⟨E.step.h, re2, nF, fun a ha => gn3 a (List.mem_append_right _ (subF a ha))⟩, ?_⟩
      have hjl : ∀ {b : Bool}, True := fun {_} => trivial
      cases eb : dSs C body (((now ρ o).set i .gone).set j (.lst true ys)) with
      | nx ρ2 =>
        rw [eb] at h
        unfold giveW at h
        simp only [es] at h
        intro σ2 H2 ⟨G2, F2, s2, re3, k2⟩
        cases ej2 : slot ρ2 j with
        | lst ow ys2 =>
          cases ow with
          | false => simp only [ej2] at h; exact h.elim
          | true =>
            simp only [ej2] at h
            have hj2 : j < ρ2.length := by
              refine Nat.lt_of_not_le fun z => ?_
              unfold slot at ej2
              rw [List.getD_eq_getElem?_getD, List.getElem?_eq_none z] at ej2
              cases ej2
            obtain ⟨s', B, R2, es2, pm2, rs2, put2⟩ := re3.focus hj2
            have hjσ : j < σ.length := by
              have e1 := re3.length
              have e2 := k2.1
              simp only [List.length_set] at e2
              omega
            have esj : σ2[j]? = some (some u) := by
              rw [k2.2 j (by unfold prW; simp), List.getElem?_set_self hjσ]
            rw [esj] at es2
            cases es2
            have r2 : Rp T G2 H2 (.lst true ys2) u B := by
              rcases rs2 with ⟨z, _⟩ | ⟨w, ew, r⟩
              · rw [ej2] at z; cases z
              · cases ew; rw [← ej2]; exact r
            obtain ⟨R2', pm2', re4⟩ := put2 (G' := G2) (H' := H2) (d' := .gone) (s' := some u) (F1' := []) (.refl _) (fun _ _ _ q => q) (.inl ⟨rfl, rfl⟩)
            rw [set_same esj] at re4
            rw [List.nil_append] at pm2'
            obtain ⟨Fn, pmn, rn⟩ := putc s2.g (s2.keepR dj) r2
            have esp : setP (.lst true xs) [n] (.lst true ys2) = .lst true (xs.set n (.lst true ys2)) := by
              unfold setP
              simp only [kids, ex, withKids]
              rfl
            rw [esp] at rn
            have m := s2.more (R := Rc) (fun a ha => (E.pre.env.trk) a (pm3.mem_iff.mpr (List.mem_append_left _ ha))) (fun a ha => gn3 a (List.mem_append_left _ ha)) a1 dj
            have S := S1.trans m
            have ndS := S.nd
            obtain ⟨b1, b2, b3⟩ := List.nodup_append.mp ndS
            have pmB : (Rc ++ F2).Perm (Fn ++ R2') := by
              refine (pm2.append_left Rc).trans ?_
              rw [← List.append_assoc]
              refine (List.Perm.append_right R2 ?_).trans (pm2'.symm.append_left Fn)
              exact List.perm_append_comm.trans pmn.symm
            have nd5 : (Fn ++ R2').Nodup := pmB.nodup_iff.mp ndS
            have eσi : σ2[i]? = some (some vi) := by
              rw [k2.2 i (by unfold prW; simp), List.getElem?_set_ne (by omega)]
              exact evi
            obtain ⟨F4, f1, f2, f3⟩ := re4.put nd5 rn eσi
            refine h σ2 H2 ⟨G2, F4, S.less f1 fun a ha => ?_, f3, ?_⟩
            · exact pmB.mem_iff.mpr (f2 a ha)
            · exact (Kp.set hj).trans (prW_le k2)
        | _ => simp only [ej2] at h; exact h.elim
      | _ => rw [eb] at h; exact h.elim
end
end Mp
/-! enumerate. -/
namespace Mp
open PySem L2
section
variable {T : Tab} {W : WX} {G G' H H' A : Hp} {ρ : Env} {σ : L2.St} {F R : List Addr}
theorem enumL_len : ∀ (n : Int) (xs : List D), (enumL n xs).length = xs.length
  | _, [] => rfl
  | n, x :: xs => by simp only [enumL, List.length_cons, enumL_len (n + 1) xs]
theorem enumL_get : ∀ (n : Int) (xs : List D) (i : Nat) (d : D), (enumL n xs)[i]? = some d → ∃ x, xs[i]? = some x ∧ d = .tup [.int (n + i), x]
  | _, [], i, d, e => by simp [enumL] at e
  | n, x :: xs, 0, d, e => by
    simp [enumL] at e
    exact ⟨x, rfl, by rw [← e]; simp⟩
  | n, x :: xs, i + 1, d, e => by
    simp only [enumL, List.getElem?_cons_succ] at e
    obtain ⟨y, e1, e2⟩ := enumL_get (n + 1) xs i d e
    refine ⟨y, by simpa using e1, ?_⟩
    rw [e2]
    congr 3
    push_cast
    omega
theorem wk_enum {K : PySem.W.Frag} {p : Addr} {ds : List D} {vs : List V} (h : ∀ H, Ext G H → Held A R H → SqL K H p vs) (rl : RpL T G G ds vs []) : Wk T (Ite K p) (enumL 0 ds) G A R := by
  have hl := rl.length
  refine ⟨fun H ex hd => ⟨vs, h H ex hd, by rw [hl, enumL_len]; exact Nat.le_refl _⟩, fun i H ex hd hi => ?_, fun i Gc H x H' d ex exc hd y e => ?_⟩
  · rw [enumL_len] at hi
    obtain ⟨w, ew⟩ := getElem?_someD (xs := vs) (n := i) (by rw [hl]; exact hi)
    exact ⟨vs, w, h H ex hd, ew⟩
  · obtain ⟨q, w, rfl, hq, rfl, y⟩ := y
    have ew := y vs (h _ (ex.trans exc) hd)
    obtain ⟨c, ec, rfl⟩ := enumL_get 0 ds i d e
    obtain ⟨w2, ew2, r2⟩ := rl.shMem ec
    rw [ew] at ew2
    cases ew2
    have r3 : Rp T Gc H c w [] := Rp.mono ex _ _ _ r2 (fun _ z => nomatch z)
    have s : Step Gc H [] (upd Gc q (.tup [.int (i : Nat), w])) (upd H q (.tup [.int (i : Nat), w])) [] := .newS exc hq
    refine ⟨_, s, ⟨q, [.int (i : Nat), w], rfl, SqT.of upd_same, ?_⟩⟩
    have r4 : Rp T (upd Gc q (.tup [.int (i : Nat), w])) (upd H q (.tup [.int (i : Nat), w])) c w [] := Rp.mono s.g _ _ _ r3 (fun _ z => nomatch z)
    exact ⟨_, _, [], [], rfl, rfl, ⟨by simp, rfl⟩, _, _, [], [], rfl, rfl, r4, rfl, rfl⟩
end
section
variable {X : Cx} {T : Tab} {W : WX} {C : Cfg} {ea eb : Expr} {pos p tpos : Pos} {elts : List Expr} {kk : Nat}
theorem okLst {o : Bool} {v : V} {G H : Hp} {Fv : List Addr} {xs : List D} (r : Rp T G H (.lst o xs) v Fv) (hs : shL xs = true) : ∃ q vs, v = .ref q ∧ (∀ H', Ext (lay G H Fv) H' → Ext G H' → SqL T.K H' q vs) ∧ ∀ H', RpL T G H' xs vs [] := by
  cases o with
  | false =>
    obtain ⟨p, vs, ev, q, r, _⟩ := r
    exact ⟨p, vs, ev, fun H' _ ex => .inl (.inl (ex _ _ q)), fun H' => RpL.sh hs r (.refl _)⟩
  | true =>
    obtain ⟨p, vs, F', ev, q, r, ef⟩ := r
    exact ⟨p, vs, ev, fun H' ex _ => .inl (.inl (ex _ _ (lay_get p (by rw [ef]; exact List.mem_cons_self) _ q))), fun H' => RpL.sh hs r (.refl _)⟩
theorem okTup {v : V} {G H : Hp} {Fv : List Addr} {xs : List D} (r : Rp T G H (.tup xs) v Fv) (hs : shL xs = true) : ∃ q vs, v = .ref q ∧ (∀ H', Ext G H' → SqT T.K H' q vs) ∧ ∀ H', RpL T G H' xs vs [] := by
  obtain ⟨p, vs, ev, q, r⟩ := r
  exact ⟨p, vs, ev, fun H' ex => ex.sqT q, fun H' => RpL.sh hs r (.refl _)⟩
theorem i_enum {a : O} (hK : X.K = T.K) (hg : Gl X "enumerate") (hm : X.mg "enumerate" = none) (ha : PE X ea (tO T W (dO C a))) (pl : plainE ea = true) : PI X (.Tuple elts kk tpos) (.Call (.Name "enumerate" p) [ea] [] pos) (tI T W (.enum a) (dI C (.enum a))) := by
  refine (pi_enum hg hm (pa_cons ha pa_nil (star_cons pl [] X.env)) (star_cons pl [] X.env)).weak fun σ H Q ⟨G, ρ, F, P, h⟩ => ?_
  simp only [dI] at h
  refine ⟨G, ρ, F, P, h.bind.imp (fun (x, o1) h v H1 ⟨G1, Fv, F1, E1, t1⟩ => ?_) fun _ _ _ z => z⟩
  rcases (Post.bind h).two with ⟨⟨d, o2⟩, ek, h⟩ | ⟨_, _, _, ek, _⟩
  rotate_left
  · exact absurd ek keepO_exc
  simp only at h
  cases d with
  | lst ow xs =>
    simp only at h
    cases hs : shL xs with
    | false => simp only [hs] at h; exact h.elim
    | true =>
      simp only [hs] at h
      obtain ⟨G2, Fw, F2, E2, r2⟩ := keepO_ok E1 t1 ek
      obtain ⟨q, vs, rfl, hq, rl⟩ := okLst r2 hs
      have E3 := E2.freeze (Fw := Fw) fun _ z => z
      have exG : Ext G2 (lay G2 H1 Fw) := lay_ext E2.step.h
      refine ⟨q, vs, rfl, by rw [hK]; exact hq H1 E3.step.h E2.step.h, h _ H1 (idle_back (fun _ => rfl) (fun _ _ => rfl) E3 (wk_enum (vs := vs) (fun H' ex _ => by rw [hK]; exact hq H' ex (exG.trans ex)) (RpL.mono exG xs vs [] (rl H1) (fun _ z => nomatch z))))⟩
  | _ => exact h.elim
end
end Mp
/-! zip of a list and a tuple. -/
namespace Mp
open PySem PySem.Spec PyProof.Rows
open PySem.Sem (wp)
/-- a kind of sequence and its iterator -/
structure Kd (prog : Program) (w : World) where
  it : Heap → Addr → Addr → Nat → Prop
  sq : Heap → Addr → Array Value → Prop
  itB : ∀ {h h' : Heap} {a b l : Addr} {i : Nat}, it h a l i → Heap.ExtBut b h h' → a ≠ b → it h' a l i
  sqB : ∀ {h h' : Heap} {a b : Addr} {xs : Array Value}, sq h a xs → Heap.ExtBut b h h' → a ≠ b → sq h' a xs
  itA : ∀ {h h' : Heap} {a l : Addr} {i : Nat}, it h a l i → (∀ o, h.get? a = some o → h'.get? a = some o) → it h' a l i
  ob : ∀ {h : Heap} {a l : Addr} {i : Nat}, it h a l i → ∃ o fs, h.get? a = some o ∧ o.data = .fields fs
  nx : ∀ {A : Around} {E : Value → Shared → Prop} {s : Shared} {a l : Addr} {i : Nat} {xs : Array Value} {x : Value} {Q : Value → Shared → Prop}, it s.heap a l i → sq s.heap l xs → xs[i]? = some x →
    (∀ h', it h' a l (i + 1) → Heap.SameBut a s.heap h' → Q x { s with heap := h' }) → wpAny (model prog w) A (Builtin.SmallTypes.nextOf (.ref a)) Q E s
  en : ∀ {A : Around} {E : Value → Shared → Prop} {s : Shared} {a l : Addr} {i : Nat} {xs : Array Value} {Q : Value → Shared → Prop}, A.handled = none → it s.heap a l i → sq s.heap l xs → xs[i]? = none →
    (∀ h' e, Heap.ExtBut a s.heap h' → (∃ o, h'.get? e = some o ∧ o.cls = .type "StopIteration") → E (.ref e) { s with heap := h' }) → wpAny (model prog w) A (Builtin.SmallTypes.nextOf (.ref a)) Q E s
def kdL (prog : Program) (w : World) : Kd prog w where
  it := fun h a l i => h.IsListIter a l i
  sq := fun h l xs => h.IsList l xs
  itB := fun x y z => x.extBut y z
  sqB := fun x y z => x.extBut y z
  itA := fun x y => x.at y
  ob := fun ⟨o, e, _, d⟩ => ⟨o, _, e, d⟩
  nx := fun a b c d => wpAny_nextOf_list_item a b c d
  en := fun a b c d e => wpAny_nextOf_list_end a b c d e
def kdT (prog : Program) (w : World) : Kd prog w where
  it := fun h a l i => h.IsTupleIter a l i
  sq := fun h l xs => h.IsTuple l xs
  itB := fun x y z => x.extBut y z
  sqB := fun x y z => x.extBut y z
  itA := fun x y => x.at y
  ob := fun ⟨o, e, _, d⟩ => ⟨o, _, e, d⟩
  nx := fun a b c d => RZ.nextOf_tuple_item a b c d
  en := fun a b c d e => RZ.nextOf_tuple_end a b c d e
section
variable {prog : Program} {w : World} {A : Around} {E : Value → Shared → Prop} {s : Shared} {κ μ : Kd prog w} {z p o i j l m : Addr} {k n : Nat} {xs ys : Array Value} {x y a b : Value}
theorem zk_item {Q : Value → Shared → Prop} (D : ZipApart z p o i j l m) (mz : IsZip s.heap z p o .none) (mp : IsPair s.heap p (.ref i) (.ref j)) (mo : IsPair s.heap o a b) (u1 : κ.it s.heap i l k) (u2 : μ.it s.heap j m n) (v1 : κ.sq s.heap l xs) (v2 : μ.sq s.heap m ys) (hx : xs[k]? = some x) (hy : ys[n]? = some y)
    (hQ : ∀ h', IsZip h' z p o (rawInt s.heap.objs.size) → IsPair h' o x y → κ.it h' i l (k + 1) → μ.it h' j m (n + 1) → IsPair h' s.heap.objs.size x y → h'.objs.size = s.heap.objs.size + 1 → (∀ c q, c ≠ z → c ≠ o → c ≠ i → c ≠ j → s.heap.get? c = some q → h'.get? c = some q) → Q (.ref s.heap.objs.size) { s with heap := h' }) :
    wpAny (model prog w) A (Builtin.«zip.__next__» ⟨[.ref z], []⟩) (fun fin s' => ∃ v, fin = .done (.ret v) ∧ Q v s') E s := by
  show wpAny _ _ (field (.ref z) 2 >>= _) _ _ _; refine wpAny_bind (wpAny_field mz rfl (x := .bool false) rfl ?_)
  show wpAny _ _ (field (.ref z) 3 >>= _) _ _ _; refine wpAny_bind (wpAny_field mz rfl (x := .ref p) rfl ?_)
  refine wpAny_bind (wpAny_seqItems mp rfl ?_)
  show wpAny _ _ (Builtin.SmallTypes.ownedTupleIsFree (.ref z) >>= _) _ _ _; refine wpAny_bind ?_
  unfold Builtin.SmallTypes.ownedTupleIsFree; refine wpAny_bind (wpAny_field mz rfl (x := .none) rfl (wpAny_pure ?_))
  simp only [if_true]
  refine wpAny_bind (wpAny_rule ?_); refine wpAny_bind (wpAny_field mz rfl (x := .ref o) rfl ?_)
  refine wpAny_bind (wpAny_setField_rec mz (by simp) fun g1 z1 c1 => ?_)
  replace z1 : IsZip g1 z p o .ellipsis := z1
  refine wpAny_bind ?_; simp only [List.zipIdx_cons, List.zipIdx_nil, List.forIn_cons, List.forIn_nil]
  refine wpAny_bind (wpAny_bind (wpAny_onRaise ?_)); show wpAny _ _ (Builtin.SmallTypes.nextOf (.ref i) >>= _) _ _ _
  refine wpAny_bind (κ.nx (κ.itB u1 c1.extBut D.i1z) (κ.sqB v1 c1.extBut D.l1z) hx fun g2 w1 c2 => wpAny_pure ?_)
  have o2 : IsPair g2 o a b := c2.extBut _ _ D.TOi1 (c1.extBut _ _ D.TOz mo)
  refine wpAny_bind (wpAny_seqItems o2 rfl ?_)
  refine wpAny_bind (wpAny_updateSeq_pair o2 fun g3 o3 c3 => ?_)
  replace o3 : IsPair g3 o x b := o3
  refine wpAny_bind (wpAny_letGo (wpAny_pure ?_)); refine wpAny_bind (wpAny_bind (wpAny_onRaise ?_))
  show wpAny _ _ (Builtin.SmallTypes.nextOf (.ref j) >>= _) _ _ _
  refine wpAny_bind (μ.nx (μ.itB (μ.itB (μ.itB u2 c1.extBut D.i2z) c2.extBut D.i12.symm) c3.extBut D.TOi2.symm) (μ.sqB (μ.sqB (μ.sqB v2 c1.extBut D.l2z) c2.extBut D.l2i1) c3.extBut D.l2TO) hy fun g4 w2 c4 => wpAny_pure ?_)
  have o4 : IsPair g4 o x b := c4.extBut _ _ D.TOi2 o3
  refine wpAny_bind (wpAny_seqItems o4 rfl ?_)
  refine wpAny_bind (wpAny_updateSeq_pair o4 fun g5 o5 c5 => ?_)
  replace o5 : IsPair g5 o x y := o5
  refine wpAny_bind (wpAny_letGo (wpAny_pure (wpAny_pure ?_))); refine wpAny_bind (wpAny_seqItems o5 rfl ?_)
  refine wpAny_bind (wpAny_newTuple ?_)
  have sz : g5.objs.size = s.heap.objs.size := by rw [c5.1, c4.1, c3.1, c2.1, c1.1]
  have z5 : IsZip g5 z p o .ellipsis := c5.extBut _ _ D.TOz.symm (c4.extBut _ _ D.i2z.symm (c3.extBut _ _ D.TOz.symm (c2.extBut _ _ D.i1z.symm z1)))
  have k5 : ∀ c q, c ≠ z → c ≠ o → c ≠ i → c ≠ j → s.heap.get? c = some q → g5.get? c = some q := fun c q d1 d2 d3 d4 e => c5.extBut _ _ d2 (c4.extBut _ _ d4 (c3.extBut _ _ d2 (c2.extBut _ _ d3 (c1.extBut _ _ d1 e))))
  have w5 : κ.it g5 i l (k + 1) := κ.itB (κ.itB (κ.itB w1 c3.extBut D.TOi1.symm) c4.extBut D.i12) c5.extBut D.TOi1.symm
  have w6 : μ.it g5 j m (n + 1) := μ.itB w2 c5.extBut D.TOi2.symm
  have lz : z < g5.objs.size := Heap.lt_size z5
  show wpAny _ _ (Builtin.SmallTypes.ownedTupleHandOut (.ref z) (.ref g5.objs.size) >>= _) _ _ _; refine wpAny_bind ?_
  unfold Builtin.SmallTypes.ownedTupleHandOut
  have z6 : IsZip (g5.push { cls := .type "tuple", data := .seq #[x, y] }) z p o .ellipsis := Heap.get?_push_of_some _ z5
  refine wpAny_bind (wpAny_setField_rec z6 (by simp) fun g7 z7 c7 => ?_)
  replace z7 : IsZip g7 z p o (rawInt g5.objs.size) := z7
  refine wpAny_setField_rec z7 (by simp) fun g8 z8 c8 => ?_
  replace z8 : IsZip g8 z p o (rawInt g5.objs.size) := z8
  have up : ∀ c q, c ≠ z → g5.get? c = some q → g8.get? c = some q := fun c q d1 e => c8.extBut _ _ d1 (c7.extBut _ _ d1 (Heap.get?_push_of_some _ e))
  have t8 : IsPair g8 g5.objs.size x y := c8.extBut _ _ (Nat.ne_of_gt lz) (c7.extBut _ _ (Nat.ne_of_gt lz) (Heap.get?_push_size _ rfl))
  have s8 : g8.objs.size = g5.objs.size + 1 := by rw [c8.1, c7.1, Heap.size_push]
  rw [sz] at z8 t8 s8
  refine wpAny_pure ⟨_, rfl, ?_⟩; show Q (.ref g5.objs.size) _
  rw [sz]
  exact hQ g8 z8 (up _ _ D.TOz o5) (κ.itA w5 fun q e => up _ q D.i1z e) (μ.itA w6 fun q e => up _ q D.i2z e) t8 s8 fun c q d1 d2 d3 d4 e => up c q d1 (k5 c q d1 d2 d3 d4 e)
theorem zk_end {Q : Fin → Shared → Prop} (hh : A.handled = none) (D : ZipApart z p o i j l m) (mz : IsZip s.heap z p o .none) (mp : IsPair s.heap p (.ref i) (.ref j)) (mo : IsPair s.heap o a b) (u1 : κ.it s.heap i l k) (u2 : μ.it s.heap j m n) (v1 : κ.sq s.heap l xs) (v2 : μ.sq s.heap m ys) (hend : xs[k]? = none ∨ ys[n]? = none)
    (hE : ∀ h' e, (∀ c q, c ≠ z → c ≠ o → c ≠ i → c ≠ j → s.heap.get? c = some q → h'.get? c = some q) → (∃ q, h'.get? e = some q ∧ q.cls = .type "StopIteration") → E (.ref e) { s with heap := h' }) : wpAny (model prog w) A (Builtin.«zip.__next__» ⟨[.ref z], []⟩) Q E s := by
  show wpAny _ _ (field (.ref z) 2 >>= _) _ _ _; refine wpAny_bind (wpAny_field mz rfl (x := .bool false) rfl ?_)
  show wpAny _ _ (field (.ref z) 3 >>= _) _ _ _; refine wpAny_bind (wpAny_field mz rfl (x := .ref p) rfl ?_)
  refine wpAny_bind (wpAny_seqItems mp rfl ?_)
  show wpAny _ _ (Builtin.SmallTypes.ownedTupleIsFree (.ref z) >>= _) _ _ _; refine wpAny_bind ?_
  unfold Builtin.SmallTypes.ownedTupleIsFree; refine wpAny_bind (wpAny_field mz rfl (x := .none) rfl (wpAny_pure ?_))
  simp only [if_true]
  refine wpAny_bind (wpAny_rule ?_); refine wpAny_bind (wpAny_field mz rfl (x := .ref o) rfl ?_)
  refine wpAny_bind (wpAny_setField_rec mz (by simp) fun g1 z1 c1 => ?_)
  replace z1 : IsZip g1 z p o .ellipsis := z1
  refine wpAny_bind ?_; simp only [List.zipIdx_cons, List.zipIdx_nil, List.forIn_cons, List.forIn_nil]
  refine wpAny_bind (wpAny_bind (wpAny_onRaise ?_)); show wpAny _ _ (Builtin.SmallTypes.nextOf (.ref i) >>= _) _ _ _
  cases hx : xs[k]? with
  | none =>
    refine wpAny_bind (κ.en hh (κ.itB u1 c1.extBut D.i1z) (κ.sqB v1 c1.extBut D.l1z) hx fun g2 e c2 he => ?_)
    obtain ⟨q, hq, hc⟩ := he
    have z2 : IsZip g2 z p o .ellipsis := c2 _ _ D.i1z.symm z1
    have ez : e ≠ z := fun x => by subst x; rw [z2] at hq; cases hq; simp at hc
    refine wpAny_setField_rec z2 (by simp) fun g3 _ c3 => hE g3 e (fun c q d1 _ d3 _ x => c3.extBut _ _ d1 (c2 _ _ d3 (c1.extBut _ _ d1 x))) ⟨q, c3.extBut _ _ ez hq, hc⟩
  | some x =>
    have hy : ys[n]? = none := by rcases hend with h | h; rw [hx] at h; cases h; exact h
    refine wpAny_bind (κ.nx (κ.itB u1 c1.extBut D.i1z) (κ.sqB v1 c1.extBut D.l1z) hx fun g2 w1 c2 => wpAny_pure ?_)
    have o2 : IsPair g2 o a b := c2.extBut _ _ D.TOi1 (c1.extBut _ _ D.TOz mo)
    refine wpAny_bind (wpAny_seqItems o2 rfl ?_)
    refine wpAny_bind (wpAny_updateSeq_pair o2 fun g3 o3 c3 => ?_)
    refine wpAny_bind (wpAny_letGo (wpAny_pure ?_)); refine wpAny_bind (wpAny_bind (wpAny_onRaise ?_))
    show wpAny _ _ (Builtin.SmallTypes.nextOf (.ref j) >>= _) _ _ _
    refine wpAny_bind (μ.en hh (μ.itB (μ.itB (μ.itB u2 c1.extBut D.i2z) c2.extBut D.i12.symm) c3.extBut D.TOi2.symm) (μ.sqB (μ.sqB (μ.sqB v2 c1.extBut D.l2z) c2.extBut D.l2i1) c3.extBut D.l2TO) hy fun g4 e c4 he => ?_)
    obtain ⟨q, hq, hc⟩ := he
    have z4 : IsZip g4 z p o .ellipsis := c4 _ _ D.i2z.symm (c3.extBut _ _ D.TOz.symm (c2.extBut _ _ D.i1z.symm z1))
    have ez : e ≠ z := fun x => by subst x; rw [z4] at hq; cases hq; simp at hc
    refine wpAny_setField_rec z4 (by simp) fun g5 _ c5 => hE g5 e (fun c q d1 d2 d3 d4 x => c5.extBut _ _ d1 (c4 _ _ d4 (c3.extBut _ _ d2 (c2.extBut _ _ d3 (c1.extBut _ _ d1 x))))) ⟨q, c5.extBut _ _ ez hq, hc⟩
theorem zk_pyItem {Q : Option Value → Shared → Prop} (D : ZipApart z p o i j l m) (mz : IsZip s.heap z p o .none) (mp : IsPair s.heap p (.ref i) (.ref j)) (mo : IsPair s.heap o a b) (u1 : κ.it s.heap i l k) (u2 : μ.it s.heap j m n) (v1 : κ.sq s.heap l xs) (v2 : μ.sq s.heap m ys) (hx : xs[k]? = some x) (hy : ys[n]? = some y)
    (hQ : ∀ h', IsZip h' z p o (rawInt s.heap.objs.size) → IsPair h' o x y → κ.it h' i l (k + 1) → μ.it h' j m (n + 1) → IsPair h' s.heap.objs.size x y → h'.objs.size = s.heap.objs.size + 1 → (∀ c q, c ≠ z → c ≠ o → c ≠ i → c ≠ j → s.heap.get? c = some q → h'.get? c = some q) → Q (some (.ref s.heap.objs.size)) { s with heap := h' }) :
    wpAny (model prog w) A (pyNext (.ref z)) Q E s := by
  have ht : s.TypeIs (.ref z) "zip" := ⟨_, mz, rfl⟩
  unfold pyNext
  exact wpAny_bind (wpAny_attempt (wpAny_callSpecial?_slot (name := Str.ofString "__next__") ht F.slot_zip_next (wpAny_call_entry F.slot_zip_next ht F.entry_zip_next (zk_item D mz mp mo u1 u2 v1 v2 hx hy fun h' a1 a2 a3 a4 a5 a6 a7 => wpAny_pure (hQ h' a1 a2 a3 a4 a5 a6 a7)) (F.args_zip_next_1 _))))
theorem zk_pyEnd {Q : Option Value → Shared → Prop} (hh : A.handled = none) (D : ZipApart z p o i j l m) (mz : IsZip s.heap z p o .none) (mp : IsPair s.heap p (.ref i) (.ref j)) (mo : IsPair s.heap o a b) (u1 : κ.it s.heap i l k) (u2 : μ.it s.heap j m n) (v1 : κ.sq s.heap l xs) (v2 : μ.sq s.heap m ys) (hend : xs[k]? = none ∨ ys[n]? = none)
    (hQ : ∀ h', (∀ c q, c ≠ z → c ≠ o → c ≠ i → c ≠ j → s.heap.get? c = some q → h'.get? c = some q) → Q none { s with heap := h' }) : wpAny (model prog w) A (pyNext (.ref z)) Q E s := by
  have ht : s.TypeIs (.ref z) "zip" := ⟨_, mz, rfl⟩
  unfold pyNext
  refine wpAny_bind (wpAny_attempt (wpAny_callSpecial?_slot (name := Str.ofString "__next__") ht F.slot_zip_next (wpAny_call_entry F.slot_zip_next ht F.entry_zip_next (zk_end hh D mz mp mo u1 u2 v1 v2 hend fun h' e hk he => ?_) (F.args_zip_next_1 _))))
  obtain ⟨q, hq, hc⟩ := he
  exact wpAny_bind (wpAny_isInstance (T := "StopIteration") (b := true) ⟨q, hq, hc⟩ isSubtype_stop (wpAny_pure (hQ _ hk)))
end
end Mp
namespace Mp
open PySem PySem.Spec PyProof.Rows L2
open PySem.Sem (wp)
def ItLT (K : PySem.W.Frag) (a b : Addr) : It :=
  ⟨fun i H => ∃ (xs ys : List V) (x y : V), SqL K H a xs ∧ SqT K H b ys ∧ xs[i]? = some x ∧ ys[i]? = some y,
    fun i H v H' => ∃ q x y, v = .ref q ∧ H q = none ∧ H' = upd H q (.tup [x, y]) ∧ (∀ xs, SqL K H a xs → xs[i]? = some x) ∧ ∀ ys, SqT K H b ys → ys[i]? = some y,
    fun i H => ∃ xs ys : List V, SqL K H a xs ∧ SqT K H b ys ∧ (xs.length ≤ i ∨ ys.length ≤ i)⟩
theorem turn_LT {P : Program} {w : World} {K : PySem.W.Frag} {elts : List Expr} {kk : Nat} {tpos : Pos} {a b z p o i1 i2 : Addr} (D : ZipApart z p o i1 i2 a b) :
    Turn P w K (.Tuple elts kk tpos) (ItLT K a b) [z, p, o, i1, i2] z (fun i h => IsZip h z p o .none ∧ IsPair h p (.ref i1) (.ref i2) ∧ (∃ x y, IsPair h o x y) ∧ (kdL P w).it h i1 a i ∧ (kdT P w).it h i2 b i) where
  mem := by simp
  obj := fun i h st c hc => by
    obtain ⟨mz, mp, ⟨x, y, mo⟩, u1, u2⟩ := st
    obtain ⟨q1, f1, e1, d1⟩ := (kdL P w).ob u1
    obtain ⟨q2, f2, e2, d2⟩ := (kdT P w).ob u2
    rcases (show c = z ∨ c = p ∨ c = o ∨ c = i1 ∨ c = i2 by simpa using hc) with q | q | q | q | q <;> rw [q]
    · exact ⟨_, mz, fun v q => nomatch q⟩
    · exact ⟨_, mp, fun v q => nomatch q⟩
    · exact ⟨_, mo, fun v q => nomatch q⟩
    · exact ⟨q1, e1, fun v q => by rw [d1] at q; cases q⟩
    · exact ⟨q2, e2, fun v q => by rw [d2] at q; cases q⟩
  keep := fun i h h' st k => by
    obtain ⟨mz, mp, ⟨x, y, mo⟩, u1, u2⟩ := st
    exact ⟨k z (by simp) _ mz, k p (by simp) _ mp, ⟨x, y, k o (by simp) _ mo⟩, (kdL P w).itA u1 fun q e => k i1 (by simp) q e, (kdT P w).itA u2 fun q e => k i2 (by simp) q e⟩
  item := by
    intro X hP hw hK hc i pins s σ H E I hf st hg
    subst hP hw hK
    obtain ⟨mz, mp, ⟨x0, y0, mo⟩, u1, u2⟩ := st
    obtain ⟨xs, ys, x, y, gx, gy, hx, hy⟩ := hg
    obtain ⟨its, r1, t1, _⟩ := I.list gx
    obtain ⟨itt, r2, t2, _⟩ := I.tuple gy
    obtain ⟨v1, b1, c1⟩ := r1.get hx
    obtain ⟨v2, b2, c2⟩ := r2.get hy
    have lz : z < s.heap.objs.size := Heap.lt_size mz
    refine zk_pyItem (κ := kdL X.prog X.w) (μ := kdT X.prog X.w) D mz mp mo u1 u2 (xs := its.toArray) (ys := itt.toArray) t1.isList (show s.heap.IsTuple b itt.toArray from t2) (x := v1) (y := v2) (by simpa using b1) (by simpa using b2) fun h' z' o' w1 w2 hT hsz hk => ?_
    refine ⟨_, rfl, wpAny_letOwnedTupleGo_zip (s := { s with heap := h' }) z' fun g zz sb => ?_⟩
    have tT : g.get? s.heap.objs.size = some { cls := .type "tuple", data := .seq #[v1, v2] } := (sb.2 _ (Nat.ne_of_gt lz)).trans hT
    have nw : ObjOk X.prog X.w (upd H s.heap.objs.size (.tup [x, y])) g s.heap.objs.size (.tup [x, y]) := ⟨by show 2 ≤ sizeLine; decide, [v1, v2], .cons c1 (.cons c2 .nil), ⟨_, tT, rfl, _, rfl⟩⟩
    have I1 : Inv X pins σ (upd H s.heap.objs.size (.tup [x, y])) { s with heap := g } := I.turnedNew (t' := s.toks) (ch := [z, p, o, i1, i2])
      (fun c q hb e => (sb.2 c (fun q' => hb (by simp [q']))).trans (hk c q (fun q' => hb (by simp [q'])) (fun q' => hb (by simp [q'])) (fun q' => hb (by simp [q'])) (fun q' => hb (by simp [q'])) e)) hf (Nat.le_refl _) nw
    refine ⟨.ref s.heap.objs.size, _, I1, rfl, ⟨_, x, y, rfl, I.hok.fresh (Nat.le_refl _), rfl, fun l hl => by rw [I.list_inj hl gx]; exact hx, fun l hl => by rw [I.tuple_inj hl gy]; exact hy⟩, ⟨zz, ?_, ⟨v1, v2, ?_⟩, ?_, ?_⟩, fun c hcm => ?_⟩
    · exact (sb.2 _ D.TIz).trans (hk _ _ D.TIz D.TITO D.TIi1 D.TIi2 mp)
    · exact (sb.2 _ D.TOz).trans o'
    · exact (kdL X.prog X.w).itA w1 fun q e => (sb.2 _ D.i1z).trans e
    · exact (kdT X.prog X.w).itA w2 fun q e => (sb.2 _ D.i2z).trans e
    · have lt : c < s.heap.objs.size := by
        obtain ⟨q1, f1, e1, _⟩ := (kdL X.prog X.w).ob u1
        obtain ⟨q2, f2, e2, _⟩ := (kdT X.prog X.w).ob u2
        rcases (show c = z ∨ c = p ∨ c = o ∨ c = i1 ∨ c = i2 by simpa using hcm) with q | q | q | q | q <;> rw [q]
        · exact lz
        · exact Heap.lt_size mp
        · exact Heap.lt_size mo
        · exact Heap.lt_size e1
        · exact Heap.lt_size e2
      rw [upd_ne (Nat.ne_of_lt lt)]
      exact (hf c hcm).1
  done := by
    intro X hP hw hK hc i pins s σ H E I hf st hg
    subst hP hw hK
    obtain ⟨mz, mp, ⟨x0, y0, mo⟩, u1, u2⟩ := st
    obtain ⟨xs, ys, gx, gy, hend⟩ := hg
    obtain ⟨its, r1, t1, _⟩ := I.list gx
    obtain ⟨itt, r2, t2, _⟩ := I.tuple gy
    have l1 := r1.length
    have l2 := r2.length
    have he : its.toArray[i]? = none ∨ itt.toArray[i]? = none := by
      rcases hend with q | q
      · exact .inl (by simp; omega)
      · exact .inr (by simp; omega)
    exact zk_pyEnd (κ := kdL X.prog X.w) (μ := kdT X.prog X.w) (I.ok.hd hc) D mz mp mo u1 u2 (xs := its.toArray) (ys := itt.toArray) t1.isList (show s.heap.IsTuple b itt.toArray from t2) he fun h' hk => ⟨rfl, I.turnedL (t' := s.toks) (ch := [z, p, o, i1, i2])
      (fun c q hb e => hk c q (fun q' => hb (by simp [q'])) (fun q' => hb (by simp [q'])) (fun q' => hb (by simp [q'])) (fun q' => hb (by simp [q'])) e) hf⟩
  self := fun A i s Q E st h => wpAny_pyIter_zip st.1 h
abbrev zl1 (h : Heap) (l : Addr) : Heap := h.push { cls := .type "list_iterator", data := .fields #[.ref l, .int 0 0] }
abbrev zl2 (h : Heap) (l m : Addr) : Heap := (zl1 h l).push { cls := .type "tuple_iterator", data := .fields #[.ref m, .int 0 0] }
abbrev zl3 (h : Heap) (l m : Addr) : Heap := (zl2 h l m).push { cls := .type "tuple", data := .seq #[.ref h.objs.size, .ref (zl1 h l).objs.size] }
abbrev zl4 (h : Heap) (l m : Addr) : Heap := (zl3 h l m).push { cls := .type "tuple", data := .seq #[.none, .none] }
abbrev zl5 (h : Heap) (l m : Addr) : Heap := (zl4 h l m).push { cls := .type "zip", data := .fields #[.none, .bool false, .bool false, .ref (zl2 h l m).objs.size, .ref (zl3 h l m).objs.size] }
theorem meets_LT (l m : Addr) (xs ys : Array Value) :
    Meets (Builtin.«zip.__new__» ⟨[.type "zip", .ref l, .ref m], []⟩) (fun _ R s => s.heap.IsList l xs ∧ s.heap.IsTuple m ys ∧ R (.ok (.ret (.ref (zl4 s.heap l m).objs.size))) { s with heap := zl5 s.heap l m }) :=
  .of_wp fun prog w A R s h => by
    obtain ⟨hp, g, d, tk, os⟩ := s; obtain ⟨a1, a2, h⟩ := h; have hsub := sub_zip
    have b1 : Heap.IsList (Shared.heap ⟨hp, g, d, tk, os⟩) l xs := a1
    have b2 : Heap.IsTuple (Shared.heap ⟨hp.push { cls := .type "list_iterator", data := .fields #[.ref l, .int 0 0] }, g, d, tk, os⟩) m ys := Heap.IsTuple.push a2 _
    wp_walk using wpAny_pyIter_list b1, wpAny_pyIter_tuple b2
    exact ⟨_, rfl, h⟩
section
variable {prog : Program} {w : World} {A : Around} {E : Value → Shared → Prop} {s : Shared}
theorem call_LT {l m : Addr} {xs ys : Array Value} {Q : Value → Shared → Prop} (a1 : s.heap.IsList l xs) (a2 : s.heap.IsTuple m ys)
    (h : ∀ h', IsZip h' (s.heap.objs.size + 4) (s.heap.objs.size + 2) (s.heap.objs.size + 3) .none → IsPair h' (s.heap.objs.size + 2) (.ref s.heap.objs.size) (.ref (s.heap.objs.size + 1)) → IsPair h' (s.heap.objs.size + 3) .none .none →
      h'.IsListIter s.heap.objs.size l 0 → h'.IsTupleIter (s.heap.objs.size + 1) m 0 → (∀ c o, s.heap.get? c = some o → h'.get? c = some o) → Q (.ref (s.heap.objs.size + 4)) { s with heap := h' }) :
    wpAny (model prog w) A (call (.type "zip") [.ref l, .ref m]) Q E s := by
  refine callType_new F.called_zip (by decide) (F.typeCall_zip_2 _ _) (F.newCall_zip_2 _ _) (fun obj => F.args_object_init_3 obj _ _) F.entry_zip_new (meets_LT l m xs ys) ⟨a1, a2, ?_⟩
  have e1 : (zl1 s.heap l).objs.size = s.heap.objs.size + 1 := Heap.size_push ..
  have e2 : (zl2 s.heap l m).objs.size = s.heap.objs.size + 2 := by rw [Heap.size_push, e1]
  have e3 : (zl3 s.heap l m).objs.size = s.heap.objs.size + 3 := by rw [Heap.size_push, e2]
  have e4 : (zl4 s.heap l m).objs.size = s.heap.objs.size + 4 := by rw [Heap.size_push, e3]
  have f5 : (zl5 s.heap l m).get? (zl4 s.heap l m).objs.size = some _ := Heap.get?_push_size _ rfl
  have f4 : (zl5 s.heap l m).get? (zl3 s.heap l m).objs.size = some _ := Heap.get?_push_of_some _ (Heap.get?_push_size _ rfl)
  have f3 : (zl5 s.heap l m).get? (zl2 s.heap l m).objs.size = some _ := Heap.get?_push_of_some _ (Heap.get?_push_of_some _ (Heap.get?_push_size _ rfl))
  have f2 : (zl5 s.heap l m).get? (zl1 s.heap l).objs.size = some _ := Heap.get?_push_of_some _ (Heap.get?_push_of_some _ (Heap.get?_push_of_some _ (Heap.get?_push_size _ rfl)))
  have f1 : (zl5 s.heap l m).get? s.heap.objs.size = some _ := Heap.get?_push_of_some _ (Heap.get?_push_of_some _ (Heap.get?_push_of_some _ (Heap.get?_push_of_some _ (Heap.get?_push_size _ rfl))))
  show _ ∧ _
  rw [e2, e3, e4] at f5; rw [e1, e2] at f3; rw [e3] at f4; rw [e1] at f2; rw [e4]
  exact ⟨⟨_, f5, rfl⟩, h _ f5 f3 f4 ⟨_, f1, rfl, rfl⟩ ⟨_, f2, rfl, rfl⟩ fun c o x => Heap.get?_push_of_some _ (Heap.get?_push_of_some _ (Heap.get?_push_of_some _ (Heap.get?_push_of_some _ (Heap.get?_push_of_some _ x))))⟩
end
def ItTL (K : PySem.W.Frag) (a b : Addr) : It :=
  ⟨fun i H => ∃ (xs ys : List V) (x y : V), SqT K H a xs ∧ SqL K H b ys ∧ xs[i]? = some x ∧ ys[i]? = some y,
    fun i H v H' => ∃ q x y, v = .ref q ∧ H q = none ∧ H' = upd H q (.tup [x, y]) ∧ (∀ xs, SqT K H a xs → xs[i]? = some x) ∧ ∀ ys, SqL K H b ys → ys[i]? = some y,
    fun i H => ∃ xs ys : List V, SqT K H a xs ∧ SqL K H b ys ∧ (xs.length ≤ i ∨ ys.length ≤ i)⟩
theorem turn_TL {P : Program} {w : World} {K : PySem.W.Frag} {elts : List Expr} {kk : Nat} {tpos : Pos} {a b z p o i1 i2 : Addr} (D : ZipApart z p o i1 i2 a b) :
    Turn P w K (.Tuple elts kk tpos) (ItTL K a b) [z, p, o, i1, i2] z (fun i h => IsZip h z p o .none ∧ IsPair h p (.ref i1) (.ref i2) ∧ (∃ x y, IsPair h o x y) ∧ (kdT P w).it h i1 a i ∧ (kdL P w).it h i2 b i) where
  mem := by simp
  obj := fun i h st c hc => by
    obtain ⟨mz, mp, ⟨x, y, mo⟩, u1, u2⟩ := st
    obtain ⟨q1, f1, e1, d1⟩ := (kdT P w).ob u1
    obtain ⟨q2, f2, e2, d2⟩ := (kdL P w).ob u2
    rcases (show c = z ∨ c = p ∨ c = o ∨ c = i1 ∨ c = i2 by simpa using hc) with q | q | q | q | q <;> rw [q]
    · exact ⟨_, mz, fun v q => nomatch q⟩
    · exact ⟨_, mp, fun v q => nomatch q⟩
    · exact ⟨_, mo, fun v q => nomatch q⟩
    · exact ⟨q1, e1, fun v q => by rw [d1] at q; cases q⟩
    · exact ⟨q2, e2, fun v q => by rw [d2] at q; cases q⟩
  keep := fun i h h' st k => by
    obtain ⟨mz, mp, ⟨x, y, mo⟩, u1, u2⟩ := st
    exact ⟨k z (by simp) _ mz, k p (by simp) _ mp, ⟨x, y, k o (by simp) _ mo⟩, (kdT P w).itA u1 fun q e => k i1 (by simp) q e, (kdL P w).itA u2 fun q e => k i2 (by simp) q e⟩
  item := by
    intro X hP hw hK hc i pins s σ H E I hf st hg
    subst hP hw hK
    obtain ⟨mz, mp, ⟨x0, y0, mo⟩, u1, u2⟩ := st
    obtain ⟨xs, ys, x, y, gx, gy, hx, hy⟩ := hg
    obtain ⟨its, r1, t1, _⟩ := I.tuple gx
    obtain ⟨itt, r2, t2, _⟩ := I.list gy
    obtain ⟨v1, b1, c1⟩ := r1.get hx
    obtain ⟨v2, b2, c2⟩ := r2.get hy
    have lz : z < s.heap.objs.size := Heap.lt_size mz
    refine zk_pyItem (κ := kdT X.prog X.w) (μ := kdL X.prog X.w) D mz mp mo u1 u2 (xs := its.toArray) (ys := itt.toArray) (show s.heap.IsTuple a its.toArray from t1) t2.isList (x := v1) (y := v2) (by simpa using b1) (by simpa using b2) fun h' z' o' w1 w2 hT hsz hk => ?_
    refine ⟨_, rfl, wpAny_letOwnedTupleGo_zip (s := { s with heap := h' }) z' fun g zz sb => ?_⟩
    have tT : g.get? s.heap.objs.size = some { cls := .type "tuple", data := .seq #[v1, v2] } := (sb.2 _ (Nat.ne_of_gt lz)).trans hT
    have nw : ObjOk X.prog X.w (upd H s.heap.objs.size (.tup [x, y])) g s.heap.objs.size (.tup [x, y]) := ⟨by show 2 ≤ sizeLine; decide, [v1, v2], .cons c1 (.cons c2 .nil), ⟨_, tT, rfl, _, rfl⟩⟩
    have I1 : Inv X pins σ (upd H s.heap.objs.size (.tup [x, y])) { s with heap := g } := I.turnedNew (t' := s.toks) (ch := [z, p, o, i1, i2])
      (fun c q hb e => (sb.2 c (fun q' => hb (by simp [q']))).trans (hk c q (fun q' => hb (by simp [q'])) (fun q' => hb (by simp [q'])) (fun q' => hb (by simp [q'])) (fun q' => hb (by simp [q'])) e)) hf (Nat.le_refl _) nw
    refine ⟨.ref s.heap.objs.size, _, I1, rfl, ⟨_, x, y, rfl, I.hok.fresh (Nat.le_refl _), rfl, fun l hl => by rw [I.tuple_inj hl gx]; exact hx, fun l hl => by rw [I.list_inj hl gy]; exact hy⟩, ⟨zz, ?_, ⟨v1, v2, ?_⟩, ?_, ?_⟩, fun c hcm => ?_⟩
    · exact (sb.2 _ D.TIz).trans (hk _ _ D.TIz D.TITO D.TIi1 D.TIi2 mp)
    · exact (sb.2 _ D.TOz).trans o'
    · exact (kdT X.prog X.w).itA w1 fun q e => (sb.2 _ D.i1z).trans e
    · exact (kdL X.prog X.w).itA w2 fun q e => (sb.2 _ D.i2z).trans e
    · have lt : c < s.heap.objs.size := by
        obtain ⟨q1, f1, e1, _⟩ := (kdT X.prog X.w).ob u1
        obtain ⟨q2, f2, e2, _⟩ := (kdL X.prog X.w).ob u2
        rcases (show c = z ∨ c = p ∨ c = o ∨ c = i1 ∨ c = i2 by simpa using hcm) with q | q | q | q | q <;> rw [q]
        · exact lz
        · exact Heap.lt_size mp
        · exact Heap.lt_size mo
        · exact Heap.lt_size e1
        · exact Heap.lt_size e2
      rw [upd_ne (Nat.ne_of_lt lt)]
      exact (hf c hcm).1
  done := by
    intro X hP hw hK hc i pins s σ H E I hf st hg
    subst hP hw hK
    obtain ⟨mz, mp, ⟨x0, y0, mo⟩, u1, u2⟩ := st
    obtain ⟨xs, ys, gx, gy, hend⟩ := hg
    obtain ⟨its, r1, t1, _⟩ := I.tuple gx
    obtain ⟨itt, r2, t2, _⟩ := I.list gy
    have l1 := r1.length
    have l2 := r2.length
    have he : its.toArray[i]? = none ∨ itt.toArray[i]? = none := by
      rcases hend with q | q
      · exact .inl (by simp; omega)
      · exact .inr (by simp; omega)
    exact zk_pyEnd (κ := kdT X.prog X.w) (μ := kdL X.prog X.w) (I.ok.hd hc) D mz mp mo u1 u2 (xs := its.toArray) (ys := itt.toArray) (show s.heap.IsTuple a its.toArray from t1) t2.isList he fun h' hk => ⟨rfl, I.turnedL (t' := s.toks) (ch := [z, p, o, i1, i2])
      (fun c q hb e => hk c q (fun q' => hb (by simp [q'])) (fun q' => hb (by simp [q'])) (fun q' => hb (by simp [q'])) (fun q' => hb (by simp [q'])) e) hf⟩
  self := fun A i s Q E st h => wpAny_pyIter_zip st.1 h
abbrev zt1 (h : Heap) (l : Addr) : Heap := h.push { cls := .type "tuple_iterator", data := .fields #[.ref l, .int 0 0] }
abbrev zt2 (h : Heap) (l m : Addr) : Heap := (zt1 h l).push { cls := .type "list_iterator", data := .fields #[.ref m, .int 0 0] }
abbrev zt3 (h : Heap) (l m : Addr) : Heap := (zt2 h l m).push { cls := .type "tuple", data := .seq #[.ref h.objs.size, .ref (zt1 h l).objs.size] }
abbrev zt4 (h : Heap) (l m : Addr) : Heap := (zt3 h l m).push { cls := .type "tuple", data := .seq #[.none, .none] }
abbrev zt5 (h : Heap) (l m : Addr) : Heap := (zt4 h l m).push { cls := .type "zip", data := .fields #[.none, .bool false, .bool false, .ref (zt2 h l m).objs.size, .ref (zt3 h l m).objs.size] }
theorem meets_TL (l m : Addr) (xs ys : Array Value) :
    Meets (Builtin.«zip.__new__» ⟨[.type "zip", .ref l, .ref m], []⟩) (fun _ R s => s.heap.IsTuple l xs ∧ s.heap.IsList m ys ∧ R (.ok (.ret (.ref (zt4 s.heap l m).objs.size))) { s with heap := zt5 s.heap l m }) :=
  .of_wp fun prog w A R s h => by
    obtain ⟨hp, g, d, tk, os⟩ := s; obtain ⟨a1, a2, h⟩ := h; have hsub := sub_zip
    have b1 : Heap.IsTuple (Shared.heap ⟨hp, g, d, tk, os⟩) l xs := a1
    have b2 : Heap.IsList (Shared.heap ⟨hp.push { cls := .type "tuple_iterator", data := .fields #[.ref l, .int 0 0] }, g, d, tk, os⟩) m ys := Heap.IsList.push a2 _
    wp_walk using wpAny_pyIter_tuple b1, wpAny_pyIter_list b2
    exact ⟨_, rfl, h⟩
section
variable {prog : Program} {w : World} {A : Around} {E : Value → Shared → Prop} {s : Shared}
theorem call_TL {l m : Addr} {xs ys : Array Value} {Q : Value → Shared → Prop} (a1 : s.heap.IsTuple l xs) (a2 : s.heap.IsList m ys)
    (h : ∀ h', IsZip h' (s.heap.objs.size + 4) (s.heap.objs.size + 2) (s.heap.objs.size + 3) .none → IsPair h' (s.heap.objs.size + 2) (.ref s.heap.objs.size) (.ref (s.heap.objs.size + 1)) → IsPair h' (s.heap.objs.size + 3) .none .none →
      h'.IsTupleIter s.heap.objs.size l 0 → h'.IsListIter (s.heap.objs.size + 1) m 0 → (∀ c o, s.heap.get? c = some o → h'.get? c = some o) → Q (.ref (s.heap.objs.size + 4)) { s with heap := h' }) :
    wpAny (model prog w) A (call (.type "zip") [.ref l, .ref m]) Q E s := by
  refine callType_new F.called_zip (by decide) (F.typeCall_zip_2 _ _) (F.newCall_zip_2 _ _) (fun obj => F.args_object_init_3 obj _ _) F.entry_zip_new (meets_TL l m xs ys) ⟨a1, a2, ?_⟩
  have e1 : (zt1 s.heap l).objs.size = s.heap.objs.size + 1 := Heap.size_push ..
  have e2 : (zt2 s.heap l m).objs.size = s.heap.objs.size + 2 := by rw [Heap.size_push, e1]
  have e3 : (zt3 s.heap l m).objs.size = s.heap.objs.size + 3 := by rw [Heap.size_push, e2]
  have e4 : (zt4 s.heap l m).objs.size = s.heap.objs.size + 4 := by rw [Heap.size_push, e3]
  have f5 : (zt5 s.heap l m).get? (zt4 s.heap l m).objs.size = some _ := Heap.get?_push_size _ rfl
  have f4 : (zt5 s.heap l m).get? (zt3 s.heap l m).objs.size = some _ := Heap.get?_push_of_some _ (Heap.get?_push_size _ rfl)
  have f3 : (zt5 s.heap l m).get? (zt2 s.heap l m).objs.size = some _ := Heap.get?_push_of_some _ (Heap.get?_push_of_some _ (Heap.get?_push_size _ rfl))
  have f2 : (zt5 s.heap l m).get? (zt1 s.heap l).objs.size = some _ := Heap.get?_push_of_some _ (Heap.get?_push_of_some _ (Heap.get?_push_of_some _ (Heap.get?_push_size _ rfl)))
  have f1 : (zt5 s.heap l m).get? s.heap.objs.size = some _ := Heap.get?_push_of_some _ (Heap.get?_push_of_some _ (Heap.get?_push_of_some _ (Heap.get?_push_of_some _ (Heap.get?_push_size _ rfl))))
  show _ ∧ _
  rw [e2, e3, e4] at f5; rw [e1, e2] at f3; rw [e3] at f4; rw [e1] at f2; rw [e4]
  exact ⟨⟨_, f5, rfl⟩, h _ f5 f3 f4 ⟨_, f1, rfl, rfl⟩ ⟨_, f2, rfl, rfl⟩ fun c o x => Heap.get?_push_of_some _ (Heap.get?_push_of_some _ (Heap.get?_push_of_some _ (Heap.get?_push_of_some _ (Heap.get?_push_of_some _ x))))⟩
end
def iZip3 (K : PySem.W.Frag) (ta : TA) : TI := fun σ H R => ta σ H fun vs H1 => ∃ a b xs ys, vs = [.ref a, .ref b] ∧ ((SqL K H1 a xs ∧ SqL K H1 b ys ∧ R (Itz K a b) H1) ∨ (SqT K H1 a xs ∧ SqT K H1 b ys ∧ R (RZ.ItzT K a b) H1) ∨ (SqL K H1 a xs ∧ SqT K H1 b ys ∧ R (ItLT K a b) H1) ∨ (SqT K H1 a xs ∧ SqL K H1 b ys ∧ R (ItTL K a b) H1))
theorem pi_zip3 {X : Cx} {e e2 : Expr} {ta : TA} {p pos tpos : Pos} {elts : List Expr} {kk : Nat} (hg : Gl X "zip") (hm : X.mg "zip" = none) (ha : PA X [e, e2] ta)
    (hs : starEach [e, e2] X.env = (false, eval e X.env) :: starEach [e2] X.env) (hpl : (backTo pos (starEach [e2] X.env)).any (·.1) = false) :
    PI X (.Tuple elts kk tpos) (.Call (.Name "zip" p) [e, e2] [] pos) (iZip3 X.K ta) := by
  refine ⟨fun pins s σ H R I h => ?_⟩
  refine Call_ (ld_blt I hg hm PyProof.Rows.boot_zip (PyProof.Rows.callWith_type1 (thn (ha.run pos pins s σ H _ I h) fun us s1 ⟨vs, H1, I1, r1, q1⟩ => ?_) hs hpl))
  obtain ⟨a, b, xs, ys, rfl, q1⟩ := q1
  obtain ⟨v1, v2, rfl, g1, g2⟩ := r1.two
  cases g1
  cases g2
  have fresh5 : ∀ c, c ∈ [s1.heap.objs.size + 4, s1.heap.objs.size + 2, s1.heap.objs.size + 3, s1.heap.objs.size, s1.heap.objs.size + 1] → FpOk X pins H1 c := fun c hcm => by
    have hle : s1.heap.objs.size ≤ c := by
      rcases (show c = s1.heap.objs.size + 4 ∨ c = s1.heap.objs.size + 2 ∨ c = s1.heap.objs.size + 3 ∨ c = s1.heap.objs.size ∨ c = s1.heap.objs.size + 1 by simpa using hcm) with z | z | z | z | z <;> omega
    exact I1.fpOk hle (I1.hok.fresh hle)
  rcases q1 with ⟨gx, gy, q⟩ | ⟨gx, gy, q⟩ | ⟨gx, gy, q⟩ | ⟨gx, gy, q⟩
  · obtain ⟨its, rv, p1, _⟩ := I1.list gx
    obtain ⟨itt, rw', p2, _⟩ := I1.list gy
    refine call_zip_2 p1.isList p2.isList fun h' hz hTI hTO h1 h2 hsz hk => wpAny_pyIter_zip hz ?_
    exact ⟨s1.heap.objs.size + 4, [s1.heap.objs.size + 4, s1.heap.objs.size + 2, s1.heap.objs.size + 3, s1.heap.objs.size, s1.heap.objs.size + 1], _, _, H1, rfl, I1.kept (t' := s1.toks) hk, turn_zip (PySem.W.ktu_apart s1.heap.objs.size a b p1.lt p2.lt), ⟨hz, hTI, ⟨_, _, hTO⟩, h1, h2⟩, fresh5, q⟩
  · obtain ⟨its, rv, p1, _⟩ := I1.tuple gx
    obtain ⟨itt, rw', p2, _⟩ := I1.tuple gy
    obtain ⟨o1, ho1, _⟩ := id p1
    obtain ⟨o2, ho2, _⟩ := id p2
    refine RZ.call_zipT (show s1.heap.IsTuple a its.toArray from p1) (show s1.heap.IsTuple b itt.toArray from p2) fun h' hz hTI hTO h1 h2 hsz hk => wpAny_pyIter_zip hz ?_
    exact ⟨s1.heap.objs.size + 4, [s1.heap.objs.size + 4, s1.heap.objs.size + 2, s1.heap.objs.size + 3, s1.heap.objs.size, s1.heap.objs.size + 1], _, _, H1, rfl, I1.kept (t' := s1.toks) hk, RZ.turn_zipT (PySem.W.ktu_apart s1.heap.objs.size a b (Heap.lt_size ho1) (Heap.lt_size ho2)), ⟨hz, hTI, ⟨_, _, hTO⟩, h1, h2⟩, fresh5, q⟩
  · obtain ⟨its, rv, p1, _⟩ := I1.list gx
    obtain ⟨itt, rw', p2, _⟩ := I1.tuple gy
    obtain ⟨o2, ho2, _⟩ := id p2
    refine call_LT p1.isList (show s1.heap.IsTuple b itt.toArray from p2) fun h' hz hTI hTO h1 h2 hk => wpAny_pyIter_zip hz ?_
    exact ⟨s1.heap.objs.size + 4, [s1.heap.objs.size + 4, s1.heap.objs.size + 2, s1.heap.objs.size + 3, s1.heap.objs.size, s1.heap.objs.size + 1], _, _, H1, rfl, I1.kept (t' := s1.toks) hk, turn_LT (PySem.W.ktu_apart s1.heap.objs.size a b p1.lt (Heap.lt_size ho2)), ⟨hz, hTI, ⟨_, _, hTO⟩, h1, h2⟩, fresh5, q⟩
  · obtain ⟨its, rv, p1, _⟩ := I1.tuple gx
    obtain ⟨itt, rw', p2, _⟩ := I1.list gy
    obtain ⟨o1, ho1, _⟩ := id p1
    refine call_TL (show s1.heap.IsTuple a its.toArray from p1) p2.isList fun h' hz hTI hTO h1 h2 hk => wpAny_pyIter_zip hz ?_
    exact ⟨s1.heap.objs.size + 4, [s1.heap.objs.size + 4, s1.heap.objs.size + 2, s1.heap.objs.size + 3, s1.heap.objs.size, s1.heap.objs.size + 1], _, _, H1, rfl, I1.kept (t' := s1.toks) hk, turn_TL (PySem.W.ktu_apart s1.heap.objs.size a b (Heap.lt_size ho1) p2.lt), ⟨hz, hTI, ⟨_, _, hTO⟩, h1, h2⟩, fresh5, q⟩
end Mp
/-! zip. -/
namespace Mp
open PySem L2
section
variable {T : Tab} {W : WX} {G G' H H' A : Hp} {ρ : Env} {σ : L2.St} {F R : List Addr}
theorem zipL_len : ∀ (xs ys : List D), (zipL xs ys).length = min xs.length ys.length
  | [], ys => by simp [zipL]
  | x :: xs, [] => by simp [zipL]
  | x :: xs, y :: ys => by simp only [zipL, List.length_cons, zipL_len xs ys]; omega
theorem zipL_get : ∀ (xs ys : List D) (i : Nat) (d : D), (zipL xs ys)[i]? = some d → ∃ x y, xs[i]? = some x ∧ ys[i]? = some y ∧ d = .tup [x, y]
  | [], ys, i, d, e => by simp [zipL] at e
  | x :: xs, [], i, d, e => by simp [zipL] at e
  | x :: xs, y :: ys, 0, d, e => by
    simp [zipL] at e
    exact ⟨x, y, rfl, rfl, e.symm⟩
  | x :: xs, y :: ys, i + 1, d, e => by
    simp only [zipL, List.getElem?_cons_succ] at e
    obtain ⟨u, v, e1, e2, e3⟩ := zipL_get xs ys i d e
    exact ⟨u, v, by simpa using e1, by simpa using e2, e3⟩
/-- a new pair of shared data -/
theorem pair_rp {Gc H : Hp} {q : Addr} {c d : D} {u v : V} (ex : Ext Gc H) (hq : H q = none) (r1 : Rp T Gc H c u []) (r2 : Rp T Gc H d v []) : ∃ Gc', Step Gc H [] Gc' (upd H q (.tup [u, v])) [] ∧ Rp T Gc' (upd H q (.tup [u, v])) (.tup [c, d]) (.ref q) [] := by
  have s : Step Gc H [] (upd Gc q (.tup [u, v])) (upd H q (.tup [u, v])) [] := .newS ex hq
  refine ⟨_, s, ⟨q, [u, v], rfl, SqT.of upd_same, ?_⟩⟩
  have m : ∀ {c : D} {u : V}, Rp T Gc H c u [] → Rp T (upd Gc q (.tup [u, v])) (upd H q (.tup [u, v])) c u [] := fun {c u} r => Rp.mono (.new (ex.back hq)) _ _ _ r (fun _ z => nomatch z)
  exact ⟨_, _, [], [], rfl, rfl, Rp.mono s.g _ _ _ r1 (fun _ z => nomatch z), _, _, [], [], rfl, rfl, Rp.mono s.g _ _ _ r2 (fun _ z => nomatch z), rfl, rfl⟩
/-- the turns of a zip, whatever is walked -/
theorem wk_zip {J : It} {S1 S2 : Hp → List V → Prop} {xs ys : List D} {vs ws : List V}
    (go : ∀ i H, (∃ (xs ys : List V) (x y : V), S1 H xs ∧ S2 H ys ∧ xs[i]? = some x ∧ ys[i]? = some y) → J.go i H)
    (stop : ∀ i H, (∃ xs ys : List V, S1 H xs ∧ S2 H ys ∧ (xs.length ≤ i ∨ ys.length ≤ i)) → J.stop i H)
    (yld : ∀ i H v H', J.yld i H v H' → ∃ q x y, v = .ref q ∧ H q = none ∧ H' = upd H q (.tup [x, y]) ∧ (∀ xs, S1 H xs → xs[i]? = some x) ∧ ∀ ys, S2 H ys → ys[i]? = some y)
    (h1 : ∀ H, Ext G H → Held A R H → S1 H vs) (h2 : ∀ H, Ext G H → Held A R H → S2 H ws) (r1 : RpL T G G xs vs []) (r2 : RpL T G G ys ws []) : Wk T J (zipL xs ys) G A R := by
  have l1 := r1.length
  have l2 := r2.length
  refine ⟨fun H ex hd => stop _ _ ⟨vs, ws, h1 H ex hd, h2 H ex hd, by rw [zipL_len, l1, l2]; omega⟩, fun i H ex hd hi => ?_, fun i Gc H x H' d ex exc hd y e => ?_⟩
  · rw [zipL_len] at hi
    obtain ⟨u, eu⟩ := getElem?_someD (xs := vs) (n := i) (by omega)
    obtain ⟨v, ev⟩ := getElem?_someD (xs := ws) (n := i) (by omega)
    exact go _ _ ⟨vs, ws, u, v, h1 H ex hd, h2 H ex hd, eu, ev⟩
  · obtain ⟨q, u, v, rfl, hq, rfl, y1, y2⟩ := yld _ _ _ _ y
    have eu := y1 vs (h1 _ (ex.trans exc) hd)
    have ev := y2 ws (h2 _ (ex.trans exc) hd)
    obtain ⟨c, d', e1, e2, rfl⟩ := zipL_get xs ys i d e
    obtain ⟨u', eu', ru⟩ := r1.shMem e1
    obtain ⟨v', ev', rv⟩ := r2.shMem e2
    rw [eu] at eu'
    cases eu'
    rw [ev] at ev'
    cases ev'
    exact pair_rp exc hq (Rp.mono ex _ _ _ ru (fun _ z => nomatch z)) (Rp.mono ex _ _ _ rv (fun _ z => nomatch z))
end
section
variable {X : Cx} {T : Tab} {W : WX} {C : Cfg} {ea eb : Expr} {pos p tpos : Pos} {elts : List Expr} {kk : Nat}
theorem i_zip {a b : O} (hK : X.K = T.K) (hg : Gl X "zip") (hm : X.mg "zip" = none) (ha : PE X ea (tO T W (dO C a))) (hb : PE X eb (tO T W (dO C b))) (pl : plainE ea = true) (pl2 : plainE eb = true) :
    PI X (.Tuple elts kk tpos) (.Call (.Name "zip" p) [ea, eb] [] pos) (tI T W (.zip a b) (dI C (.zip a b))) := by
  refine (pi_zip3 hg hm (pa_cons ha (pa_cons hb pa_nil (star_cons pl2 [] X.env)) (star_cons pl [eb] X.env)) (star_cons pl [eb] X.env) (star_any (by simp [pl2]) X.env pos)).weak fun σ H Q ⟨G, ρ, F, P, h⟩ => ?_
  simp only [dI] at h
  refine ⟨G, ρ, F, P, h.bind.imp (fun (x, o1) h v H1 ⟨G1, Fv, F1, E1, t1⟩ => ?_) fun _ _ _ z => z⟩
  rcases (Post.bind h).two with ⟨⟨d, o2⟩, ek, h⟩ | ⟨_, _, _, ek, _⟩
  rotate_left
  · exact absurd ek keepO_exc
  simp only at h
  obtain ⟨G2, Fw, F2, E2, r2⟩ := keepO_ok E1 t1 ek
  have E3 := E2.freeze (Fw := Fw) fun _ z => z
  refine ⟨_, now ρ o2, F2, E3.pre, (Post.bind h).imp (fun (y, o3) h u H2 ⟨G4, Fu, F4, E4, t4⟩ => ?_) (Xi.ev E3)⟩
  rcases (Post.bind h).two with ⟨⟨e, o4⟩, ek2, h⟩ | ⟨_, _, _, ek2, _⟩
  rotate_left
  · exact absurd ek2 keepO_exc
  simp only at h
  obtain ⟨G5, Fz, F5, E5, r5⟩ := keepO_ok E4 t4 ek2
  have E6 := E5.freeze (Fw := Fz) fun _ z => z
  have E := E3.trans (fun _ z => nomatch z) E6
  have x1 : Ext G2 (lay G2 H1 Fw) := lay_ext E2.step.h
  have x2 : Ext (lay G2 H1 Fw) (lay G5 H2 Fz) := E6.step.g
  have x3 : Ext G5 (lay G5 H2 Fz) := lay_ext E5.step.h
  have x4 : Ext (lay G5 H2 Fz) H2 := E6.step.h
  cases ez : zipD d e with
  | none => rw [ez] at h; exact h.elim
  | some r =>
    rw [ez] at h
    have h : ∀ J H', OkI T (.zip a b) G H F ρ σ (orE o4 o2) r J H' → Q J H' := h
    have fin : ∀ {J : It}, Wk T J r (lay G5 H2 Fz) H2 [] → Q J H2 := fun wk => h _ H2 (idle_back (fun _ => rfl) (fun _ _ => rfl) E wk)
    unfold zipD at ez
    split at ez
    · split at ez
      · rename_i hs
        cases ez
        rw [Bool.and_eq_true] at hs
        obtain ⟨q1, vs, rfl, k1, l1⟩ := okLst r2 hs.1
        obtain ⟨q2, ws, rfl, k2, l2⟩ := okLst r5 hs.2
        refine ⟨q1, q2, vs, ws, rfl, .inl ⟨by rw [hK]; exact k1 _ (x2.trans x4) (x1.trans (x2.trans x4)), by rw [hK]; exact k2 _ x4 (x3.trans x4), fin ?_⟩⟩
        rw [hK]
        exact wk_zip (S1 := fun H xs => SqL T.K H q1 xs) (S2 := fun H xs => SqL T.K H q2 xs) (vs := vs) (ws := ws) (fun i H z => z) (fun i H z => z) (fun i H v H' z => z) (fun H' ex _ => k1 H' (x2.trans ex) (x1.trans (x2.trans ex))) (fun H' ex _ => k2 H' ex (x3.trans ex))
          (RpL.mono (x1.trans x2) _ vs [] (l1 H1) (fun _ z => nomatch z)) (RpL.mono x3 _ ws [] (l2 H1) (fun _ z => nomatch z))
      · cases ez
    · split at ez
      · rename_i hs
        cases ez
        rw [Bool.and_eq_true] at hs
        obtain ⟨q1, vs, rfl, k1, l1⟩ := okLst r2 hs.1
        obtain ⟨q2, ws, rfl, k2, l2⟩ := okTup r5 hs.2
        refine ⟨q1, q2, vs, ws, rfl, .inr (.inr (.inl ⟨by rw [hK]; exact k1 _ (x2.trans x4) (x1.trans (x2.trans x4)), by rw [hK]; exact k2 _ (x3.trans x4), fin ?_⟩))⟩
        rw [hK]
        exact wk_zip (S1 := fun H xs => SqL T.K H q1 xs) (S2 := fun H xs => SqT T.K H q2 xs) (vs := vs) (ws := ws) (fun i H z => z) (fun i H z => z) (fun i H v H' z => z) (fun H' ex _ => k1 H' (x2.trans ex) (x1.trans (x2.trans ex))) (fun H' ex _ => k2 H' (x3.trans ex))
          (RpL.mono (x1.trans x2) _ vs [] (l1 H1) (fun _ z => nomatch z)) (RpL.mono x3 _ ws [] (l2 H1) (fun _ z => nomatch z))
      · cases ez
    · split at ez
      · rename_i hs
        cases ez
        rw [Bool.and_eq_true] at hs
        obtain ⟨q1, vs, rfl, k1, l1⟩ := okTup r2 hs.1
        obtain ⟨q2, ws, rfl, k2, l2⟩ := okTup r5 hs.2
        refine ⟨q1, q2, vs, ws, rfl, .inr (.inl ⟨by rw [hK]; exact k1 _ (x1.trans (x2.trans x4)), by rw [hK]; exact k2 _ (x3.trans x4), fin ?_⟩)⟩
        rw [hK]
        exact wk_zip (S1 := fun H xs => SqT T.K H q1 xs) (S2 := fun H xs => SqT T.K H q2 xs) (vs := vs) (ws := ws) (fun i H z => z) (fun i H z => z) (fun i H v H' z => z) (fun H' ex _ => k1 H' (x1.trans (x2.trans ex))) (fun H' ex _ => k2 H' (x3.trans ex))
          (RpL.mono (x1.trans x2) _ vs [] (l1 H1) (fun _ z => nomatch z)) (RpL.mono x3 _ ws [] (l2 H1) (fun _ z => nomatch z))
      · cases ez
    · split at ez
      · rename_i hs
        cases ez
        rw [Bool.and_eq_true] at hs
        obtain ⟨q1, vs, rfl, k1, l1⟩ := okTup r2 hs.1
        obtain ⟨q2, ws, rfl, k2, l2⟩ := okLst r5 hs.2
        refine ⟨q1, q2, vs, ws, rfl, .inr (.inr (.inr ⟨by rw [hK]; exact k1 _ (x1.trans (x2.trans x4)), by rw [hK]; exact k2 _ x4 (x3.trans x4), fin ?_⟩))⟩
        rw [hK]
        exact wk_zip (S1 := fun H xs => SqT T.K H q1 xs) (S2 := fun H xs => SqL T.K H q2 xs) (vs := vs) (ws := ws) (fun i H z => z) (fun i H z => z) (fun i H v H' z => z) (fun H' ex _ => k1 H' (x1.trans (x2.trans ex))) (fun H' ex _ => k2 H' ex (x3.trans ex))
          (RpL.mono (x1.trans x2) _ vs [] (l1 H1) (fun _ z => nomatch z)) (RpL.mono x3 _ ws [] (l2 H1) (fun _ z => nomatch z))
      · cases ez
    · cases ez
end
end Mp
/-! found.append(..) in an except suite. -/
namespace Mp
open PySem L2
section
variable {X : Cx} {T : Tab} {W : WX} {C : Cfg} {pr : Nat → Bool} {p pos ap q : Pos} {a : Addr} {oe : Obj} {cls : Value} {d : Option Addr} {pn : List (Addr × Obj)} {i : Option Nat}
theorem x_app {j : Nat} {ea : Expr} {xe : Xe} {y : Str} (hN : X.N[j]? = some y) (hv : Vis X.env.scope y) (hd : (y == ("__debug__" : Str)) = false) (hcd : (y == ("__classdict__" : Str)) = false)
    (h : PE (X.suite a ((a, oe) :: pn)) ea (tXe T C a i cls d xe)) (pl : plainE ea = true) (hl : (ap.endLine == q.line) = true) :
    PS (X.suite a ((a, oe) :: pn)) (.Expr (.Call (.Attribute (.Name y p) "append" ap) [ea] [] q) pos) (tXS T C pr a i cls d (.app j xe)) := by
  have hn : PE (X.suite a ((a, oe) :: pn)) (.Name y p) (tVar j) := pe_var hN hv hd hcd
  have pl2 : [ea].all plainE = true := by simp [pl]
  refine (ps_expr (pe_bm PySem.F.plainAttrs_list PySem.F.slot_list_append PySem.F.type_list_append mt_append hn (pa_cons h pa_nil (star_cons pl [] _)) rfl (few_ok pl2 (by simp)) hl (star_cons pl [] _) rfl) rfl).weak fun DD σ H ⟨G, ρ, F, c, x, P, k, z⟩ => ?_
  simp only [dXs] at z
  cases e : dXe C c x xe with
  | none => simp only [e] at z; exact z.elim
  | some y' =>
    cases es : slot ρ j with
    | lst ow xs =>
      cases ow with
      | false => simp only [e, es] at z; exact z.elim
      | true =>
        simp only [e, es] at z
        split at z
        rotate_left
        · exact z.elim
        rename_i hlt
        have ng : slot ρ j ≠ .gone := by rw [es]; exact fun z => nomatch z
        obtain ⟨v, ev, hi⟩ := P.env.vat rfl ng
        have eg : getS ρ j [] = some (.lst true xs) := by unfold getS; rw [es]; rfl
        obtain ⟨F0, r0, _⟩ := P.change eg (.var ev)
        obtain ⟨l, vs, F', rfl, hp, rl, ef⟩ := r0
        refine ⟨.ref l, ev, .inl ⟨rfl, vs, .inl (.inl hp)⟩, ?_⟩
        refine ⟨G, c, x, y', P.ex, k, e, fun u H1 G1 Fv s1 r1 => ?_⟩
        have E := New.ev P s1
        obtain ⟨F3, rd, nd3, gn3, put⟩ := changeX (Fx := Fv) E.env E.step.nd E.step.gn eg (.var ev)
        show rAppend (V.ref l) [u] H1 (fun _ H1 => DD.nx σ H1)
        refine bm_append G1 H1 (.lst true xs) (.lst true (xs ++ [y'])) .non (.ref l) [y'] [u] Fv F3 _ E.step.h rd (.one r1) (by unfold bmD; simp only [hlt]; rfl) nd3 gn3 fun w G' H' Fw F1' s ry rd' => ?_
        obtain ⟨F4, s', re'⟩ := put s rd'
        have E2 := E.then s' re'
        have est : setS ρ j [] (.lst true (xs ++ [y'])) = ρ.set j (.lst true (xs ++ [y'])) := rfl
        rw [show now ρ none = ρ from rfl, est] at E2
        exact z σ H' ⟨G', F4, E2.nil.step, E2.env, .refl⟩
    | _ => simp only [e, es] at z; exact z.elim
end
end Mp
/-! A dict display of one pair; pop(i); op= at names and at items. -/
namespace Mp
open PySem L2
theorem orE_id (o : Option Env) : orE o none = o := by cases o <;> rfl
section
variable {X : Cx} {T : Tab} {W : WX} {C : Cfg} {pr : Nat → Bool} {ek ev ea eo ei : Expr} {pos pos' : Pos}
theorem e_dd1 {ke ve : E} (hk : PE X ek (tE T W (dE C ke))) (hv : PE X ev (tE T W (dE C ve))) : PE X (.Dict [some ek] [ev] pos) (tE T W (dE C (.dd1 ke ve))) := by
  refine (pe_disp (pps_cons hk hv pps_nil) rfl rfl (by simp) (by simp)).weak fun σ H Q ⟨G, ρ, F, P, h⟩ p hp => ?_
  simp only [dE] at h
  have E0 := New.ev P (.newO (o := .dK []) P.ex hp)
  have r0 : Rp T G (upd H p (.dK [])) (.dct true true [] []) (.ref p) [p] := ⟨rfl, p, [], [], rfl, rfl, ⟨rfl, rfl⟩, List.nodup_nil, Nat.zero_le _, upd_same, rfl⟩
  refine ⟨G, ρ, F, E0.pre, h.bind.imp (fun (x, o1) h v H1 ⟨G1, Fv, F1, E1, r1⟩ => ?_) (Xi.ev E0)⟩
  refine ⟨G1, now ρ o1, F1, E1.pre, (Post.bind h).imp (fun (y, o2) h u H2 ⟨G2, Fu, F2, E2, r2⟩ => ?_) fun c x r z => Xi.ev E1 c x r (Xi.ev E0 c x r z)⟩
  have E1' : Ev T G (upd H p (.dK [])) F (now ρ none) σ o1 G1 H1 Fv F1 := E1
  have E01 := E0.trans (Rp.trk _ _ _ r0) E1'
  rw [orE_id] at E01
  have r01 := E1'.keepRp r0 E0.apart
  have rk := r1
  have tr1 : Trk H1 ([p] ++ Fv) := fun a ha => (List.mem_append.mp ha).elim (Rp.trk _ _ _ r01 a) (Rp.trk _ _ _ r1 a)
  have E := E01.trans tr1 E2
  have r02 := E2.keepRp r01 fun a ha => E01.apart a (List.mem_append_left _ ha)
  simp only at h r2
  cases hko : keyOk true x with
  | false => rw [hko] at h; exact h.elim
  | true =>
    rw [hko] at h
    have h : ∀ v H', OkE T G H F ρ σ (orE o2 o1) (.dct true true [x] [y]) v H' → Q v H' := h
    obtain ⟨key, _, ed⟩ := keyOk_of hko
    subst ed
    have hx := r1.key
    subst hx
    have hFv : Fv = [] := by cases key <;> exact r1.2
    subst hFv
    obtain ⟨_, p', kvs', F', e1, e2, e3, _, _, hH, ef⟩ := r02
    cases e1
    have hkv : kvs' = [] := by
      cases kvs' with
      | nil => rfl
      | cons a b => simp at e2
    subst hkv
    have hF' : F' = [] := by
      have := List.cons.inj ef
      exact this.2.symm
    subst hF'
    have ndE := E.step.nd
    have gnE := E.step.gn
    rw [List.append_nil] at ndE gnE E
    have hm : p ∈ ([p] ++ Fu) ++ F2 := List.mem_append_left _ (List.mem_append_left _ (List.mem_singleton.mpr rfl))
    have sW : Step G2 H2 (([p] ++ Fu) ++ F2) G2 (upd H2 p (.dK (putK [] key u))) (([p] ++ Fu) ++ F2) := Step.write E.step.h gnE hH hm ndE fun a ha => ha
    obtain ⟨n1, n2, n3⟩ := List.nodup_append.mp ndE
    have npF2 : p ∉ F2 := fun z => n3 p (List.mem_append_left _ (List.mem_singleton.mpr rfl)) p z rfl
    have npFu : p ∉ Fu := fun z => (List.nodup_append.mp n1).2.2 p (List.mem_singleton.mpr rfl) p z rfl
    have EF : Ev T G H F ρ σ (orE o2 o1) G2 (upd H2 p (.dK (putK [] key u))) ([p] ++ Fu) F2 := by
      refine ⟨E.step.trans sW, E.env.mono (.refl _) fun a ha o q => ?_, fun e => ?_⟩
      · rw [upd_ne (fun z => npF2 (by rw [← z]; exact ha))]; exact q
      · obtain ⟨h1, h2⟩ := E.calm e
        refine ⟨fun a o q => ?_, h2⟩
        have ne : a ≠ p := fun z => by rw [z, hp] at q; cases q
        rw [upd_ne ne]
        exact h1 a o q
    refine ⟨hH, [(key, u)], rfl, by simp, h (.ref p) (upd H2 p (.dK (putK [] key u))) ⟨G2, [p] ++ Fu, F2, EF, ?_⟩⟩
    have := dct_new (T := T) (G := G2) (H := H2) (ks := []) (ds := []) (p := p) (kvs := []) (F' := []) (Fx := Fu) (x := y) (u := u) (k := key) rfl ⟨rfl, rfl⟩ List.nodup_nil (by rw [sizeLine_eq]; decide) rfl (by simp) npFu r2
    simpa using this
end
end Mp
namespace Mp
open PySem L2
/-- the text's operator is this one: +, - -/
def augB (op : Op) (p : Operator) : Bool := match op, p with
  | .add, .Add => true
  | .sub, .Sub => true
  | _, _ => false
section
variable {X : Cx} {T : Tab} {W : WX} {C : Cfg} {pr : Nat → Bool} {ea eo ei : Expr} {pos pos' : Pos}
theorem aug_ip {op : Op} {p : Operator} (h : augB op p = true) : ∃ f : Int → Int → Int, PIp X p (ipI f) ∧ ∀ a b, binI op a b = some (.int (f a b)) := by
  unfold augB at h
  split at h
  · exact ⟨_, ip_add, fun a b => rfl⟩
  · exact ⟨_, ip_sub, fun a b => rfl⟩
  · cases h
theorem s_aug {i : Nat} {x : Str} {e : E} {op : Op} {opp : Operator} (hN : X.N.Nodup) (hi : X.N[i]? = some x) (hl : Loc X.env.scope x) (hf : X.fn x = true ∨ X.env.scope.names.lookup x = some .local) (hp : pr i = false)
    (he : PE X ea (tE T W (dE C e))) (ho : augB op opp = true) : PS X (.AugAssign (.Name x pos') opp ea pos) (tS T W pr (dS C (.aug i op e))) := by
  obtain ⟨f, hip, hb⟩ := aug_ip (X := X) ho
  refine (ps_aug hN hi hl he hip hf).weak fun DD σ H ⟨G, ρ, F, P, h⟩ => ?_
  simp only [dS] at h
  cases hs : slot ρ i with
  | int a =>
    rw [hs] at h
    obtain ⟨v, hv, hlt⟩ := P.env.vat hs (by simp)
    have hg : getS ρ i [] = some (.int a) := by unfold getS; simp [getP, hs]
    obtain ⟨F1, R, _, r, _⟩ := P.env.place hg (show VAt T H ρ σ i [] v from ⟨v, hv, rfl⟩)
    have hva := r.int
    subst hva
    refine ⟨_, hv, G, ρ, F, P, (PostS.then h).imp (fun (y, o) h u H1 ⟨G1, Fv, F1, E1, r1⟩ => ?_) fun _ _ _ z => z⟩
    simp only at h r1
    cases y with
    | int b =>
      simp only [hb] at h
      have hu := r1.int
      subst hu
      refine ⟨a, b, rfl, rfl, ?_⟩
      have hnd := (List.nodup_append.mp E1.step.nd).2.1
      obtain ⟨F', n', sub', re'⟩ := RpE.store (i := i) (d := .int (f a b)) (v := .int (f a b)) (F1 := []) E1.env (by simpa using hnd) ⟨rfl, rfl⟩
      exact h _ H1 ⟨G1, F', E1.nil.step.less n' (fun a ha => by simpa using sub' a ha), re', .set hp⟩
    | _ => exact h.elim
  | _ => rw [hs] at h; exact h.elim
end
end Mp
namespace Mp
open PySem L2 PyProof.Rows
theorem intD_eq {d : D} {a : Int} (h : intD d = some a) : d = .int a := by
  cases d <;> first | (cases h; rfl) | cases h
def rGetA (T : Tab) : V → V → Hp → VK → Prop := fun o i H Q => ∃ G dx dy Fx Fy a, Ext G H ∧ Rp T G H dx o Fx ∧ Rp T G H dy i Fy ∧ itemA dx dy = some a ∧ Q (.int a) H
section
variable {X : Cx} {T : Tab} {W : WX} {C : Cfg} {pr : Nat → Bool} {ea eo ei : Expr} {pos pos' : Pos}
theorem pget_any (hK : X.K = T.K) (hu : X.A.units + 1 < cLine) : PGet X (rGetA T) := by
  intro pins s σ H o i ov iv Q I ro ri ⟨G, dx, dy, Fx, Fy, a, ex, qx, qy, e, k⟩
  unfold itemA at e
  split at e
  · rename_i o0 xs0 nn
    split at e
    · rename_i kk ek
      split at e
      · rename_i c ec
        have hc := intD_eq e
        subst hc
        obtain ⟨p, vs, F', rfl, hp, r1⟩ := qx.lst ex
        cases qy.int
        obtain ⟨w, F1, ew, rw1, _⟩ := r1.get ec
        have hw := rw1.int
        subst hw
        have hl := r1.length
        rw [← hl] at ek
        obtain ⟨its, r, pl, hz⟩ := I.list (SqL.of hp)
        cases ro
        obtain ⟨t, rfl⟩ := ri
        obtain ⟨w', ew', rw'⟩ := r.get ew
        have hlen := r.length
        have hn := line63
        have fin : EP X pins σ Q w' s := ⟨.int a, H, I, rw', k⟩
        have hlt := place_lt ek
        by_cases h0 : 0 ≤ nn
        · have hj : nn.toNat = kk := by
            unfold place at ek
            rw [if_pos h0] at ek
            split at ek
            · exact Option.some.inj ek
            · cases ek
          exact wpAny_getItem_list pl.isList h0 (by omega) (by rw [hj]; simpa using ew') fin
        · have hj : (nn + (its.toArray.size : Int)).toNat = kk ∧ 0 ≤ nn + (its.toArray.size : Int) := by
            unfold place at ek
            rw [if_neg h0] at ek
            split at ek
            · have := Option.some.inj ek
              rw [List.size_toArray, ← hlen]
              constructor <;> assumption
            · cases ek
          refine wpAny_getItem_list_neg (Q := fun r s' => EP X pins σ Q r s') pl.isList (by omega) (by omega) ?_ (by rw [hj.1]; simpa using ew') fin
          have : its.toArray.size ≤ sizeLine := by rw [List.size_toArray, ← hlen]; exact hz
          omega
      · cases e
    · cases e
  · split at e
    · rename_i hk
      rw [Bool.and_eq_true] at hk
      obtain ⟨p, kvs, F', rfl, eks, r1, nd, hz, hp⟩ := (qx.dct ex).2
      obtain ⟨key, _, ed⟩ := keyOk_of hk.2
      subst ed
      have hx := qy.key
      subst hx
      subst eks
      rcases findD_key key kvs with ⟨e1, _⟩ | ⟨n', p', e1, e2, e3, e4⟩
      · rw [e1] at e; cases e
      · rw [e1] at e
        simp only at e
        split at e
        · rename_i c ec
          have hc := intD_eq e
          subst hc
          obtain ⟨w, F1, ew, rw1, _⟩ := r1.get ec
          have hw := rw1.int
          subst hw
          rw [List.getElem?_map, e2] at ew
          have hp2 : p'.2 = .int a := by simpa using ew
          obtain rfl : ov = Value.ref p := ro
          have g : DGet H p (kV key) (valV kvs key) := .k hp
          rw [e4, hp2] at g
          exact d_getItem hu I g ri fun w' s' I' rw' => ⟨_, H, I', rw', k⟩
        · cases e
    · cases e
  · cases e
theorem s_augix {p : P} {k e : E} {op : Op} {opp : Operator} (hK : X.K = T.K) (hu : X.A.units + 1 < cLine) (ho : PE X eo (tO T W (dP C p))) (hi : PE X ei (tE T W (dE C k))) (he : PE X ea (tE T W (dE C e))) (hop : augB op opp = true)
    (ha : ∀ ov iv new, augStore ei ov iv new = (do holding [new, ov, iv] (setItem ov iv new); release [new, ov, iv] []; pure .next)) :
    PS X (.AugAssign (.Subscript eo ei pos') opp ea pos) (tS T W pr (dS C (.augix p k op e))) := by
  obtain ⟨f, hip, hb⟩ := aug_ip (X := X) hop
  refine (ps_augS ho hi (pget_any hK hu) he hip (pset_any (T := T) hu) ha).weak fun DD σ H ⟨G, ρ, F, P, h⟩ => ?_
  simp only [dS] at h
  refine ⟨G, ρ, F, P, (PostS.then h).imp (fun (a, o) h v H1 ⟨G1, Fv, F1, E1, t1⟩ => ?_) fun _ _ _ z => z⟩
  refine ⟨G1, now ρ o, F1, E1.pre, (PostS.then h).imp (fun (y, o2) h w H2 ⟨G2, Fk, F2, E2, rk⟩ => ?_) (Xi.ev E1)⟩
  simp only at h t1 E1 E2 rk
  cases a with
  | tm _ => exact h.elim
  | pl i π =>
    simp only at h
    cases fm : ((OV.pl i π).firm || o2.isNone) with
    | false => rw [fm] at h; exact h.elim
    | true =>
      rw [fm] at h
      simp only at h
      have t2 := E2.keepTmp t1 E1.apart fm
      obtain ⟨rfl, va⟩ := t2
      cases eg : getS (now (now ρ o) o2) i π with
      | none => rw [eg] at h; exact h.elim
      | some d =>
        rw [eg] at h
        simp only at h
        cases ei' : itemA d y with
        | none => rw [ei'] at h; exact h.elim
        | some u =>
          rw [ei'] at h
          simp only at h
          have P2 := E2.pre
          obtain ⟨Fd, R, _, rd, _⟩ := P2.env.place eg va
          refine ⟨G2, d, y, Fd, Fk, u, P2.ex, rd, rk, ei', ?_⟩
          refine ⟨G2, now (now ρ o) o2, F2, P2, (PostS.then h).imp (fun (z, o3) h q H3 ⟨G3, Fz, F3, E3, rz⟩ => ?_) fun c x r z => Xi.ev E2 c x r (Xi.ev E1 c x r z)⟩
          simp only at h rz
          cases fm3 : ((OV.pl i π).firm || o3.isNone) with
          | false => rw [fm3] at h; exact h.elim
          | true =>
            rw [fm3] at h
            simp only at h
            have t3 := E3.keepTmp (a := .pl i π) (v := v) (Fv := []) ⟨rfl, va⟩ (fun _ z => nomatch z) fm3
            obtain ⟨_, va3⟩ := t3
            cases z with
            | int b =>
              simp only [hb] at h
              have hz := rz.int
              subst hz
              refine ⟨u, b, rfl, rfl, ?_⟩
              unfold storeI at h
              cases eg3 : getS (now (now (now ρ o) o2) o3) i π with
              | none => rw [eg3] at h; exact h.elim
              | some d3 =>
                rw [eg3] at h
                simp only at h
                cases ep : putD d3 y (.int (f u b)) with
                | none => rw [ep] at h; exact h.elim
                | some d' =>
                  rw [ep] at h
                  simp only at h
                  have hnd := (List.nodup_append.mp E3.step.nd).2.1
                  have hgn : ∀ a ∈ ([] : List Addr) ++ F3, G3 a = none := fun a ha => E3.step.gn a (List.mem_append_right _ (by simpa using ha))
                  obtain ⟨F5, rd3, nd5, gn5, put⟩ := changeX (Fx := []) E3.env (by simpa using hnd) hgn eg3 va3
                  have rk3 := E3.keepRp rk E2.apart
                  refine ⟨G3, d3, y, d', .int (f u b), [], F5, Fk, E3.step.h, rd3, rk3, ⟨rfl, rfl⟩, nd5, gn5, ep, fun H' F1' s' rd' => ?_⟩
                  obtain ⟨F', s2, re2⟩ := put (Fv := []) (F1' := F1') (by simpa using s') rd'
                  refine h σ H' ⟨G3, F', ?_, re2, .refl⟩
                  have s12 := E1.nil.step.trans E2.nil.step
                  have s3 := s12.trans E3.nil.step
                  exact s3.trans (by simpa using s2)
            | _ => exact h.elim
end
end Mp
namespace Mp
open PySem L2
section
variable {T : Tab}
theorem augStore_ok {ei : Expr} (h : notSlice ei = true) : ∀ ov iv new, augStore ei ov iv new = (do holding [new, ov, iv] (setItem ov iv new); release [new, ov, iv] []; pure .next) := by
  intro ov iv new
  cases ei with
  | Slice a b c d => cases c with
    | none => cases h
    | some c => rfl
  | _ => rfl
theorem RpL.eraseAt {G H : Hp} : ∀ {xs : List D} {vs : List V} {F : List Addr} {n : Nat} {c : D}, RpL T G H xs vs F → xs[n]? = some c → ∃ v F1 F2, vs[n]? = some v ∧ F.Perm (F1 ++ F2) ∧ Rp T G H c v F2 ∧ RpL T G H (xs.eraseIdx n) (vs.eraseIdx n) F1
  | [], vs, F, n, c, h, e => by simp at e
  | x :: xs, vs, F, 0, c, h, e => by
    obtain ⟨v, ws, F1, F2, rfl, rfl, r, h⟩ := h
    simp at e
    subst e
    exact ⟨v, F2, F1, rfl, List.perm_append_comm, r, h⟩
  | x :: xs, vs, F, n + 1, c, h, e => by
    obtain ⟨v, ws, F1, F2, rfl, rfl, r, h⟩ := h
    obtain ⟨w, A, B, ew, pm, rc, rl⟩ := RpL.eraseAt h (by simpa using e)
    refine ⟨w, F1 ++ A, B, by simpa using ew, ?_, rc, v, _, F1, A, rfl, rfl, r, rl⟩
    rw [List.append_assoc]
    exact pm.append_left F1
theorem bm_pop1 : BmOk T .pop1 rPopAt := by
  intro G H d d' y x xs us Fa F1 Q ex rd ra e nd gn k
  unfold bmD at e
  split at e <;> first | contradiction | cases e | skip
  · split at e
    · rename_i hg
      split at e
      · rename_i n en
        split at e
        · rename_i c hc
          cases e
          obtain ⟨l, vs, F', rfl, hp, rl, ef⟩ := rd
          obtain ⟨u0, ws0, Fu0, Fw0, rfl, rfl, ru0, ⟨rfl, rfl⟩⟩ := ra
          obtain ⟨rfl, rfl⟩ := ru0
          rw [List.append_nil, List.nil_append] at nd gn k
          obtain ⟨v, A, B, ev, pm, rc, rl2⟩ := rl.eraseAt hc
          subst ef
          have nd2 := ((pm.cons l).nodup_iff).mp nd
          have hn := List.nodup_cons.mp nd2
          obtain ⟨m1, m2, m3⟩ := List.nodup_append.mp hn.2
          rw [← rl.length] at en
          obtain ⟨q1, q2, q3, q4⟩ := ixN_seq (place_ixN en)
          simp only [Bool.and_eq_true, decide_eq_true_eq] at hg
          refine ⟨l, vs, _, n, v, rfl, rfl, hp, by omega, by omega, q1, ev, ?_⟩
          refine k v G _ B (l :: A) (Step.write ex gn hp List.mem_cons_self ?_ ?_) (rc.upd fun z => hn.1 (List.mem_append_right _ z)) ⟨l, _, A, rfl, upd_same, rl2.upd fun z => hn.1 (List.mem_append_left _ z), rfl⟩
          · refine List.nodup_append.mpr ⟨m2, List.nodup_cons.mpr ⟨fun z => hn.1 (List.mem_append_left _ z), m1⟩, fun a ha b hb e => ?_⟩
            rcases List.mem_cons.mp hb with z | z
            · exact hn.1 (by rw [← z, ← e]; exact List.mem_append_right _ ha)
            · exact m3 b z a ha e.symm
          · intro a ha
            rcases List.mem_append.mp ha with z | z
            · exact List.mem_cons_of_mem _ (pm.mem_iff.mpr (List.mem_append_right _ z))
            · rcases List.mem_cons.mp z with z | z
              · rw [z]; exact List.mem_cons_self
              · exact List.mem_cons_of_mem _ (pm.mem_iff.mpr (List.mem_append_left _ z))
        · cases e
      · cases e
    · cases e
end
end Mp
/-! not as a value. -/
namespace Mp
open PySem L2
section
variable {X : Cx} {T : Tab} {W : WX} {C : Cfg} {ea : Expr} {pos : Pos}
theorem truth_V {G H : Hp} {d : D} {v : V} {Fv : List Addr} {b : Bool} (ex : Ext G H) (rd : Rp T G H d v Fv) (e2 : truth d = some b) : TruV T.K v H b := by
  unfold truth at e2
  split at e2 <;> try cases e2
  · rw [rd.non]; rfl
  · rw [rd.bl]; rfl
  · rw [rd.int]; rfl
  · split at e2
    · rename_i hl
      cases e2
      rw [rd.str]
      refine ⟨by rw [← line_eq]; exact of_decide_eq_true hl, ?_⟩
      exact bne_cast _
    · cases e2
  · obtain ⟨p, vs, rfl, hp, r1⟩ := rd.tup ex
    refine .inr (.inl ⟨vs, hp, ?_⟩)
    have := r1.length
    exact empty_len this
  · obtain ⟨p, vs, _, rfl, hp, r1⟩ := rd.lst ex
    refine .inl ⟨vs, .inl (.inl hp), ?_⟩
    have := r1.length
    exact empty_len this
  · obtain ⟨_, p, kvs, _, rfl, ek, r1, _, _, hp⟩ := rd.dct ex
    refine .inr (.inr ⟨kvs, hp, ?_⟩)
    subst ek
    cases kvs <;> rfl
theorem e_notv {a : O} (hK : X.K = T.K) (ha : PE X ea (tO T W (dO C a))) : PE X (.UnaryOp .Not ea pos) (tE T W (dE C (.notv a))) := by
  have := un_ok (r := fun x H Q => ∃ k, TruV X.K x H k ∧ Q (.bl (!k)) H) (f := notD) ha (fun ta ha => pe_notT (pos := pos) ha) (fun G H x d v Fv Q ex rx e n => by
    unfold notD at e
    cases e2 : truth x with
    | none => rw [e2] at e; cases e
    | some b =>
      rw [e2] at e
      cases e
      rw [hK]
      exact ⟨b, truth_V ex rx e2, n.bl ex⟩)
  refine this.weak fun σ H Q h => ?_
  simp only [dE] at h
  exact h
end
end Mp
/-! The checker: the intermediate form is that of the text. -/
namespace Mp
open PySem L2

/-- what is known of the text around -/
structure Ck where
  N : List Str
  sc : Scope
  fnc : Str → Bool
  fns : List (Nat × Str)
  mes : List (Nat × Nat × Str)
  mks : List (Nat × Nat × Str)
  exs : List (Nat × Str)
  fl : Nat → Str
  nf : Nat
  cls : Bool
def bltNames : List Str := ["len", "abs", "int", "bool", "str", "min", "max", "sum", "list", "tuple", "dict", "sorted", "set", "range", "isinstance", "any", "all", "zip", "enumerate"]
section
variable (k : Ck)
def kd (x : Str) : Option NameKind := k.sc.names.lookup x
def visB (x : Str) : Bool := match kd k x with
  | some .local => true | some .cell => true | some .free => true
  | _ => false
def dbg (x : Str) : Bool := !(x == ("__debug__" : Str)) && !(x == ("__classdict__" : Str))
def glB (x : Str) : Bool := decide (kd k x = some .globalImplicit) && !(x == ("__debug__" : Str))
def bltB (x : Str) : Bool := glB k x && bltNames.contains x
def locB (x : Str) : Bool := match kd k x with
  | some .local => true
  | some .cell => k.fnc x
  | _ => false
def nameB (i : Nat) (e : Expr) : Bool := match e with
  | .Name x _ => decide (k.N[i]? = some x) && visB k x && dbg x
  | _ => false
def abB (e : Expr) : Bool := match e with
  | .Call (.Name _ _) [] [] _ => false
  | _ => true
def plT (e : Expr) : Bool := match e with
  | .Name _ _ => true | .Call _ _ _ _ => true | .Attribute _ _ _ => true | .Subscript _ _ _ => true | .BinOp _ _ _ _ => true | .List _ _ => true | .Tuple _ _ _ => true | .ListComp _ _ _ _ => true
  | _ => false
def notSet (e : Expr) : Bool := match e with
  | .Set _ _ _ => false
  | _ => true
/-- the call of a built-in by its name: the name, the operands -/
def bltCall (x : Str) (e : Expr) : Option (List Expr) := match e with
  | .Call (.Name y _) as [] _ => if x = y && bltB k x && as.all plainE then some as else none
  | _ => none
def blName : Bl → Option Str
  | .len => some "len" | .abs => some "abs" | .int => some "int" | .bool => some "bool" | .min1 => some "min" | .max1 => some "max" | .min2 => some "min" | .max2 => some "max"
  | .sum => some "sum" | .list => some "list" | .tuple => some "tuple" | .sorted => some "sorted" | .any => some "any" | .all => some "all"
  | _ => none
def bl1 : Bl → Bool
  | .min2 => false | .max2 => false
  | _ => true
def tyName : Ty → Str
  | .int => "int" | .bool => "bool" | .str => "str" | .list => "list" | .tuple => "tuple" | .dict => "dict" | .cls _ => ""
def tyB (t : Ty) (e : Expr) : Bool := match e with
  | .Name x _ => decide (x = tyName t) && bltB k x
  | _ => false
def bmName : Bm → Option Str
  | .append => some "append" | .pop0 => some "pop" | .pop1 => some "pop" | .reverse => some "reverse" | .clear => some "clear" | .setdef => some "setdefault" | .insert => some "insert" | .remove => some "remove"
  | _ => none
end
def opEq (o : Op) (p : Operator) : Bool := decide (o.py = p)
def cpEq (o : Cp) (p : CmpOp) : Bool := decide (o.py = p)
def ownOf (N : List Str) (own : List Nat) : List (Str × Nat) := own.map fun i => (N.getD i "", i)
/-- the checker's context in a comprehension's block -/
def Ck.blk (k : Ck) (scope : Scope) : Ck := { k with sc := relS scope k.sc, fnc := fun x => scope.names.lookup x == some .cell }
/-- the target of what yields pairs is written as a tuple -/
def tgI : I → Expr → Bool
  | .enum _, e => match e with
    | .Tuple _ _ _ => true
    | _ => false
  | .zip _ _, e => match e with
    | .Tuple _ _ _ => true
    | _ => false
  | _, _ => true
mutual
def cG (k : Ck) (pr : Nat → Bool) : Tg → Expr → Bool
  | .var i, e => match e with
    | .Name x _ => decide (k.N[i]? = some x) && locB k x && !pr i
    | _ => false
  | .tup ts, e => match e with
    | .Tuple es _ _ => cGs k pr ts es && decide (es.length = ts.len)
    | _ => false
def cGs (k : Ck) (pr : Nat → Bool) : Tgs → List Expr → Bool
  | .nil, es => match es with
    | [] => true
    | _ => false
  | .cons t ts, es => match es with
    | e :: es => cG k pr t e && plainE e && cGs k pr ts es
    | _ => false
end
mutual
def cP (k : Ck) : P → Expr → Bool
  | .var i, e => nameB k i e
  | .fld p f, e => match e with
    | .Attribute v a _ => k.cls && decide (f < k.nf) && decide (a = k.fl f) && abB v && cP k p v
    | _ => false
  | .ix p i, e => match e with
    | .Subscript v s _ => notSlice s && cP k p v && cE k i s
    | _ => false
def cO (k : Ck) : O → Expr → Bool
  | .pl p, e => cP k p e
  | .tm x, e => cE k x e
def cOs (k : Ck) : Os → List Expr → Bool
  | .nil, es => match es with
    | [] => true
    | _ => false
  | .cons o os, es => match es with
    | e :: es => cO k o e && plainE e && cOs k os es
    | _ => false
def cEs (k : Ck) : Es → List Expr → Bool
  | .nil, es => match es with
    | [] => true
    | _ => false
  | .cons x xs, es => match es with
    | e :: es => cE k x e && plainE e && cEs k xs es
    | _ => false
/-- a test: the clauses of an and (true), of an or -/
def cT (k : Ck) : T → Bool → List Expr → Bool
  | .tr o, _, es => match es with
    | [e] => plT e && cO k o e
    | _ => false
  | .cmp op a b, _, es => match es with
    | [.Compare l [p] [r] _] => cpEq op p && notSet r && cO k a l && cO k b r
    | _ => false
  | .chain op op' a b c, _, es => match es with
    | [.Compare l [p, q] [r, s] _] => cpEq op p && cpEq op' q && notSet s && cO k a l && cO k b r && cO k c s
    | _ => false
  | .and a b, op, es => match es with
    | [.BoolOp .And (e :: f :: rs) _] => cT k a true [e] && cT k b true (f :: rs)
    | [_] => false
    | e :: rs => op && cT k a true [e] && cT k b true rs
    | [] => false
  | .or a b, op, es => match es with
    | [.BoolOp .Or (e :: f :: rs) _] => cT k a false [e] && cT k b false (f :: rs)
    | [_] => false
    | e :: rs => !op && cT k a false [e] && cT k b false rs
    | [] => false
  | .not a, _, es => match es with
    | [.UnaryOp .Not e _] => cT k a true [e]
    | _ => false
def cE (k : Ck) : E → Expr → Bool
  | .non, e => match e with
    | .Constant .none _ _ => true
    | _ => false
  | .bl b, e => match e with
    | .Constant (.bool c) _ _ => decide (b = c)
    | _ => false
  | .int i, e => match e with
    | .Constant (.int j) _ _ => decide (i = j)
    | _ => false
  | .str s, e => match e with
    | .Constant (.str t) _ _ => decide (s = t)
    | _ => false
  | .rd p, e => cP k p e
  | .mv i, e => nameB k i e
  | .frz a, e => cE k a e
  | .bin op a b, e => match e with
    | .BinOp l p r _ => opEq op p && cO k a l && cO k b r
    | _ => false
  | .neg a, e => match e with
    | .UnaryOp .USub x _ => cO k a x
    | _ => false
  | .inv a, e => match e with
    | .UnaryOp .Invert x _ => cO k a x
    | _ => false
  | .notv a, e => match e with
    | .UnaryOp .Not x _ => cO k a x
    | _ => false
  | .cmp op a b, e => match e with
    | .Compare l [p] [r] _ => cpEq op p && notSet r && cO k a l && cO k b r
    | _ => false
  | .chain op op' a b c, e => match e with
    | .Compare l [p, q] [r, s] _ => cpEq op p && cpEq op' q && notSet s && cO k a l && cO k b r && cO k c s
    | _ => false
  | .andv a b, e => match e with
    | .BoolOp .And [l, r] _ => cE k a l && cE k b r
    | .BoolOp .And (l :: r :: s :: rs) p => cE k a l && cE k b (.BoolOp .And (r :: s :: rs) p)
    | _ => false
  | .orv a b, e => match e with
    | .BoolOp .Or [l, r] _ => cE k a l && cE k b r
    | .BoolOp .Or (l :: r :: s :: rs) p => cE k a l && cE k b (.BoolOp .Or (r :: s :: rs) p)
    | _ => false
  | .ife t a b, e => match e with
    | .IfExp c l r _ => cT k t true [c] && cE k a l && cE k b r
    | _ => false
  | .sub a i, e => match e with
    | .Subscript v s _ => notSlice s && cO k a v && cO k i s
    | _ => false
  | .slc a lo hi _, e => match e with
    | .Subscript v (.Slice l h none _) _ => cO k a v && (match l with
      | none => cEs k lo []
      | some x => cEs k lo [x]) && (match h with
      | none => cEs k hi []
      | some x => cEs k hi [x])
    | _ => false
  | .rev a, e => match e with
    | .Subscript v (.Slice none none (some (.UnaryOp .USub (.Constant (.int 1) _ _) _)) _) _ => cO k a v
    | _ => false
  | .lst es, e => match e with
    | .List xs _ => cEs k es xs
    | _ => false
  | .tup es, e => match e with
    | .Tuple xs _ _ => cEs k es xs
    | _ => false
  | .dnew b, e => match e with
    | .Dict [] [] _ => b
    | _ => false
  | .dd1 a b, e => match e with
    | .Dict [some x] [y] _ => cE k a x && cE k b y
    | _ => false
  | .blt b os, e => match b with
    | .lenset => match bltCall k "len" e with
      | some [a] => (match bltCall k "set" a with
        | some [c] => cOs k os [c]
        | _ => false)
      | _ => false
    | .sortedset => match bltCall k "sorted" e with
      | some [a] => (match bltCall k "set" a with
        | some [c] => cOs k os [c]
        | _ => false)
      | _ => false
    | .isinst t => match bltCall k "isinstance" e with
      | some [a, c] => tyB k t c && cOs k os [a]
      | _ => false
    | .isinst2 t u => match bltCall k "isinstance" e with
      | some [a, .Tuple [c, d] _ _] => tyB k t c && tyB k u d && cOs k os [a]
      | _ => false
    | b => match blName b with
      | some x => match bltCall k x e with
        | some [a] => bl1 b && cOs k os [a]
        | some [a, c] => !bl1 b && cOs k os [a, c]
        | _ => false
      | none => false
  | .call f os, e => match e with
    | .Call (.Name x _) as [] _ => decide (k.fns.lookup f = some x) && glB k x && cOs k os as
    | _ => false
  | .make f c _ os, e => match e with
    | .Call (.Name x _) as [] _ => decide (k.mks.lookup f = some (c, x)) && glB k x && cOs k os as && !as.isEmpty
    | _ => false
  | .meth f c a os, e => match e with
    | .Call (.Attribute v m ap) as [] p => decide (k.mes.lookup f = some (c, m)) && k.cls && abB v && cO k a v && cOs k os as && decide (as.length < 30) && (ap.endLine == p.line)
    | _ => false
  | .bm m p es, e => match e with
    | .Call (.Attribute v x ap) as [] q => decide (bmName m = some x) && abB v && cP k p v && cEs k es as && decide (as.length < 30) && (ap.endLine == q.line) && (match m with
      | .append => decide (as.length = 1)
      | .setdef => decide (as.length = 2)
      | .insert => decide (as.length = 2)
      | .remove => decide (as.length = 1)
      | .pop1 => decide (as.length = 1)
      | _ => as.isEmpty)
    | _ => false
  | .fldv a f, e => match e with
    | .Attribute v x _ => k.cls && decide (f < k.nf) && decide (x = k.fl f) && abB v && cO k a v
    | _ => false
  | .rng os, e => match bltCall k "list" e with
    | some [a] => (match bltCall k "range" a with
      | some [x] => cOs k os [x]
      | some [x, y] => cOs k os [x, y]
      | _ => false)
    | _ => false
  | .lc it tg own cs elt, e => match e with
    | .ListComp el [⟨t, i, ifs, 0⟩] scope _ => cI k it i && tgI it t && notSet i && blkC k.N k.sc scope (ownOf k.N own) && decide own.Nodup && cG (k.blk scope) (fun j => !own.contains j) tg t && cCs (k.blk scope) cs ifs && cE (k.blk scope) elt el
    | _ => false
  | _, _ => false
def cCs (k : Ck) : Cs → List Expr → Bool
  | .nil, es => match es with
    | [] => true
    | _ => false
  | .one t, es => match es with
    | [e] => cT k t true [e]
    | _ => false
def cI (k : Ck) : I → Expr → Bool
  | .seq o, e => cO k o e
  | .lock i, e => nameB k i e
  | .rng1 a, e => match bltCall k "range" e with
    | some [x] => cO k a x
    | _ => false
  | .enum a, e => match bltCall k "enumerate" e with
    | some [x] => cO k a x
    | _ => false
  | .zip a b, e => match bltCall k "zip" e with
    | some [x, y] => cO k a x && cO k b y
    | _ => false
  | _, _ => false
end
end Mp
/-! The checker is sound: expressions. -/
namespace Mp
open PySem L2

structure Hx (X : Cx) (T : Tab) (W : WX) (C : Cfg) (k : Ck) : Prop where
  N : X.N = k.N
  nd : k.N.Nodup
  sc : X.env.scope = k.sc
  kind : k.sc.kind = .function
  K : X.K = T.K
  un : X.A.units + 65 < cLine
  calm : X.calm = true
  tk : L2.Takes X W
  fnc : ∀ x, k.fnc x = true → X.fn x = true
  blt : ∀ x, bltNames.contains x = true → X.mg x = none
  fl : ∀ f, T.fnm f = k.fl f
  nf : k.nf = T.nf
  cls : k.cls = true → ClsOk X T
  call : ∀ f x, k.fns.lookup f = some x → Callee X T (C.fn f) x
  me : ∀ f c m, k.mes.lookup f = some (c, m) → CalleeM X T (C.fn f) c m
  mak : ∀ f c x, k.mks.lookup f = some (c, x) → Maker X T (C.fn f) c x
section
variable {X : Cx} {T : Tab} {W : WX} {C : Cfg} {k : Ck}
theorem Hx.blk (h : Hx X T W C k) {s : Shared} {H : Hp} {scope : Scope} {Ca : Addr} {cl : List (Str × Addr)} {fp : List Addr} (hk : scope.kind = .function) : Hx (X.blk s H scope (compEnvC scope cl Ca X.env) fp) T WF C (k.blk scope) where
  N := h.N
  nd := h.nd
  sc := by
    show relS scope X.env.scope = relS scope k.sc
    rw [h.sc]
  kind := hk
  K := h.K
  un := h.un
  calm := h.calm
  tk := fun u s' ⟨_, _, _, _, _, _, _, _, _, _, _, _, _, _, _, _, w⟩ => w
  fnc := fun x hx => hx
  blt := h.blt
  fl := h.fl
  nf := h.nf
  cls := fun hc => ⟨(h.cls hc).cls, (h.cls hc).no⟩
  call := fun f x e => ⟨(h.call f x e).ok⟩
  me := fun f c m e => ⟨(h.me f c m e).ok, (h.me f c m e).no⟩
  mak := fun f c x e => ⟨(h.mak f c x e).ok⟩
theorem vis_ok (h : Hx X T W C k) {x : Str} (hv : visB k x = true) : Vis X.env.scope x := by
  unfold visB kd at hv
  rw [← h.sc] at hv
  unfold Vis
  split at hv <;> first | exact .inl (by assumption) | exact .inr (.inl (by assumption)) | exact .inr (.inr (by assumption)) | cases hv
theorem dbg_ok {x : Str} (h : dbg x = true) : (x == ("__debug__" : Str)) = false ∧ (x == ("__classdict__" : Str)) = false := by
  unfold dbg at h
  simpa using h
theorem name_ok (h : Hx X T W C k) {i : Nat} {e : Expr} (hc : nameB k i e = true) : PE X e (tVar i) := by
  unfold nameB at hc
  split at hc
  · simp only [Bool.and_eq_true, decide_eq_true_eq] at hc
    obtain ⟨⟨h1, h2⟩, h3⟩ := hc
    exact pe_var (by rw [h.N]; exact h1) (vis_ok h h2) (dbg_ok h3).1 (dbg_ok h3).2
  · cases hc
theorem gl_ok (h : Hx X T W C k) {x : Str} (hg : glB k x = true) : Gl X x ∧ (x == ("__debug__" : Str)) = false := by
  unfold glB kd at hg
  simp only [Bool.and_eq_true, decide_eq_true_eq, Bool.not_eq_true'] at hg
  refine ⟨?_, hg.2⟩
  unfold Gl Env.kindOf
  rw [h.sc]
  exact hg.1
theorem blt_ok (h : Hx X T W C k) {x : Str} (hb : bltB k x = true) : Gl X x ∧ X.mg x = none := by
  unfold bltB at hb
  rw [Bool.and_eq_true] at hb
  exact ⟨(gl_ok h hb.1).1, h.blt x hb.2⟩
theorem bltCall_ok {x : Str} {e : Expr} {as : List Expr} (hc : bltCall k x e = some as) : ∃ p pos, e = .Call (.Name x p) as [] pos ∧ bltB k x = true ∧ as.all plainE = true := by
  unfold bltCall at hc
  split at hc
  · split at hc
    · rename_i hh
      cases hc
      simp only [Bool.and_eq_true, decide_eq_true_eq] at hh
      obtain ⟨⟨h1, h2⟩, h3⟩ := hh
      subst h1
      exact ⟨_, _, rfl, h2, h3⟩
    · cases hc
  · cases hc
theorem ab_ok {e : Expr} (f : Str) (h : abB e = true) : attributeBase e f X.env (eval e X.env) = eval e X.env := by
  refine attrBase_ok f ?_
  unfold abB at h
  exact h
theorem plT_ok {e : Expr} (h : plT e = true) : ∀ whole, isTrue e X.env whole = (do let v ← whole; standAt e.pos; holding [v] (truthy v)) := by
  intro whole
  cases e <;> first | rfl | cases h
theorem notSet_ok {e : Expr} (h : notSet e = true) (op : CmpOp) : behindInMarks op e = false := by
  cases e <;> first | rfl | cases h
theorem notSetF_ok {e : Expr} (h : notSet e = true) {env : PySem.Env} : ∀ x, foldedSetIterable e env x = pure x := by
  intro x
  cases e <;> first | rfl | cases h
theorem opEq_ok {o : Op} {p : Operator} (h : opEq o p = true) : p = o.py := (of_decide_eq_true h).symm
theorem cpEq_ok {o : Cp} {p : CmpOp} (h : cpEq o p = true) : p = o.py := (of_decide_eq_true h).symm
theorem ix_ok {e : Expr} (h : notSlice e = true) : PlainIx e := by
  refine plainIx_ok ?_
  unfold notSlice at h
  exact h
theorem ty_ok (h : Hx X T W C k) {t : Ty} {e : Expr} (hc : tyB k t e = true) : PE X e (tC (.ty t.nm)) := by
  unfold tyB at hc
  split at hc
  · simp only [Bool.and_eq_true, decide_eq_true_eq] at hc
    obtain ⟨h1, h2⟩ := hc
    subst h1
    obtain ⟨hg, hm⟩ := blt_ok h h2
    cases t with
    | int => exact pe_bltn hg hm PyProof.Rows.boot_int rfl
    | bool => exact pe_bltn hg hm PyProof.Rows.boot_bool rfl
    | str => exact pe_bltn (u := .type "str") hg hm (by decide +kernel) rfl
    | list => exact pe_bltn hg hm PyProof.Rows.boot_list rfl
    | tuple => exact pe_bltn hg hm PyProof.Rows.boot_tuple rfl
    | dict => exact pe_bltn hg hm PyProof.Rows.boot_dict rfl
    | cls c => 
      unfold bltB at h2
      rw [Bool.and_eq_true] at h2
      have h3 : bltNames.contains ("" : Str) = true := h2.2
      exact absurd h3 (by decide)
  · cases hc
/-! ### targets -/
theorem loc_ok (h : Hx X T W C k) {x : Str} (hl : locB k x = true) : Loc X.env.scope x ∧ (X.fn x = true ∨ X.env.scope.names.lookup x = some .local) := by
  unfold locB kd at hl
  rw [← h.sc] at hl
  split at hl
  · exact ⟨.inl (by assumption), .inr (by assumption)⟩
  · exact ⟨.inr (by assumption), .inl (h.fnc x hl)⟩
  · cases hl
mutual
theorem sG {pr : Nat → Bool} (h : Hx X T W C k) : ∀ (t : Tg) {e : Expr}, cG k pr t e = true → PG X e (tG T pr t)
  | .var i, e, hc => by
    simp only [cG] at hc
    split at hc
    · simp only [Bool.and_eq_true, decide_eq_true_eq, Bool.not_eq_true'] at hc
      obtain ⟨⟨h1, h2⟩, h3⟩ := hc
      obtain ⟨l1, l2⟩ := loc_ok h h2
      exact g_var (pg_name (by rw [h.N]; exact h.nd) (by rw [h.N]; exact h1) l1 l2) h3
    · cases hc
  | .tup ts, e, hc => by
    simp only [cG] at hc
    split at hc
    · simp only [Bool.and_eq_true, decide_eq_true_eq] at hc
      have q := sGs h ts hc.1
      exact g_tup h.K h.calm q.1 q.2 hc.2
    · cases hc
theorem sGs {pr : Nat → Bool} (h : Hx X T W C k) : ∀ (ts : Tgs) {es : List Expr}, cGs k pr ts es = true → PGs X es (tGs T pr ts) ∧ es.all plainE = true
  | .nil, es, hc => by
    simp only [cGs] at hc
    split at hc
    · exact ⟨gs_nil, rfl⟩
    · cases hc
  | .cons t ts, es, hc => by
    simp only [cGs] at hc
    split at hc
    · simp only [Bool.and_eq_true] at hc
      have q := sGs h ts hc.2
      exact ⟨gs_cons (sG h t hc.1.1) q.1 hc.1.2, by rw [List.all_cons, hc.1.2, q.2]; rfl⟩
    · cases hc
end
end
end Mp
/-! The checker is sound: expressions, the induction. -/
namespace Mp
open PySem L2

theorem own_map (N : List Str) (own : List Nat) : (ownOf N own).map (·.2) = own := by
  unfold ownOf
  rw [List.map_map]
  exact List.map_id own
section
variable {T : Tab} {C : Cfg}
mutual
theorem sP : ∀ (p : P) {X : Cx} {W : WX} {k : Ck} (h : Hx X T W C k) {e : Expr}, cP k p e = true → PE X e (tO T W (dP C p))
  | .var i, X, W, k, h, e, hc => by
    simp only [cP] at hc
    exact o_var (name_ok h hc)
  | .fld p f, X, W, k, h, e, hc => by
    simp only [cP] at hc
    split at hc
    · simp only [Bool.and_eq_true, decide_eq_true_eq] at hc
      obtain ⟨⟨⟨⟨h1, h2⟩, h3⟩, h4⟩, h5⟩ := hc
      rw [h3, ← h.fl]
      exact o_fld (h.cls h1) (sP p h h5) (ab_ok _ h4)
    · cases hc
  | .ix p i, X, W, k, h, e, hc => by
    simp only [cP] at hc
    split at hc
    · simp only [Bool.and_eq_true] at hc
      obtain ⟨⟨h1, h2⟩, h3⟩ := hc
      exact o_ix h.K (by have := h.un; omega) (sP p h h2) (sE i h h3) (ix_ok h1)
    · cases hc
theorem sO : ∀ (o : O) {X : Cx} {W : WX} {k : Ck} (h : Hx X T W C k) {e : Expr}, cO k o e = true → PE X e (tO T W (dO C o))
  | .pl p, X, W, k, h, e, hc => by
    simp only [cO] at hc
    exact o_pl (sP p h hc)
  | .tm x, X, W, k, h, e, hc => by
    simp only [cO] at hc
    exact o_tm (sE x h hc)
theorem sOs : ∀ (os : Os) {X : Cx} {W : WX} {k : Ck} (h : Hx X T W C k) {es : List Expr}, cOs k os es = true → PA X es (tOs T W (dOs C os)) ∧ es.all plainE = true
  | .nil, X, W, k, h, es, hc => by
    simp only [cOs] at hc
    split at hc
    · exact ⟨os_nil, rfl⟩
    · cases hc
  | .cons o os, X, W, k, h, es, hc => by
    simp only [cOs] at hc
    split at hc
    · simp only [Bool.and_eq_true] at hc
      have q := sOs os h hc.2
      exact ⟨os_cons (sO o h hc.1.1) q.1 hc.1.2, by rw [List.all_cons, hc.1.2, q.2]; rfl⟩
    · cases hc
theorem sEs : ∀ (xs : Es) {X : Cx} {W : WX} {k : Ck} (h : Hx X T W C k) {es : List Expr}, cEs k xs es = true → PA X es (tEs T W (dEs C xs)) ∧ es.all plainE = true
  | .nil, X, W, k, h, es, hc => by
    simp only [cEs] at hc
    split at hc
    · exact ⟨es_nil, rfl⟩
    · cases hc
  | .cons x xs, X, W, k, h, es, hc => by
    simp only [cEs] at hc
    split at hc
    · simp only [Bool.and_eq_true] at hc
      have q := sEs xs h hc.2
      exact ⟨es_cons (sE x h hc.1.1) q.1 hc.1.2, by rw [List.all_cons, hc.1.2, q.2]; rfl⟩
    · cases hc
theorem sT : ∀ (t : Mp.T) {X : Cx} {W : WX} {k : Ck} (h : Hx X T W C k) {op : Bool} {es : List Expr}, cT k t op es = true → (∀ e, es = [e] → PT X e (tB' T W (dT C t))) ∧ (op = true → es ≠ [] → ∀ pos, PW X (.BoolOp .And es pos) (tB' T W (dT C t))) ∧ (op = false → es ≠ [] → ∀ pos, PW X (.BoolOp .Or es pos) (tB' T W (dT C t)))
  | .tr o, X, W, k, h, op, es, hc => by
    simp only [cT] at hc
    split at hc
    · simp only [Bool.and_eq_true] at hc
      have q : PT X _ (tB' T W (dT C (.tr o))) := (t_truth h.K (sO o h hc.2) (plT_ok hc.1)).weak fun σ H Q hh => by simp only [dT] at hh; exact hh
      exact ⟨fun e he => by cases he; exact q, fun _ _ pos => pw_and1 q, fun _ _ pos => pw_or1 q⟩
    · cases hc
  | .cmp o a b, X, W, k, h, op, es, hc => by
    simp only [cT] at hc
    split at hc
    · simp only [Bool.and_eq_true] at hc
      obtain ⟨⟨⟨h1, h2⟩, h3⟩, h4⟩ := hc
      have e1 := cpEq_ok h1
      subst e1
      have q := fun pos => t_cmp (pos := pos) (or_cmp h.K h.un o) (sO a h h3) (sO b h h4) (notSet_ok h2 _)
      exact ⟨fun e he => by cases he; exact q _, fun _ _ pos => pw_and1 (q _), fun _ _ pos => pw_or1 (q _)⟩
    · cases hc
  | .chain o o' a b c, X, W, k, h, op, es, hc => by
    simp only [cT] at hc
    split at hc
    · simp only [Bool.and_eq_true] at hc
      obtain ⟨⟨⟨⟨⟨h1, h2⟩, h3⟩, h4⟩, h5⟩, h6⟩ := hc
      have e1 := cpEq_ok h1
      have e2 := cpEq_ok h2
      subst e1 e2
      have q := fun pos => t_chain (pos := pos) (or_cmp h.K h.un o) (or_cmp h.K h.un o') (sO a h h4) (sO b h h5) (sO c h h6) (notSet_ok h3 _)
      exact ⟨fun e he => by cases he; exact q _, fun _ _ pos => pw_and1 (q _), fun _ _ pos => pw_or1 (q _)⟩
    · cases hc
  | .and a b, X, W, k, h, op, es, hc => by
    simp only [cT] at hc
    split at hc
    · rename_i e f rs pp
      simp only [Bool.and_eq_true] at hc
      have q := fun pos => t_and (pos := pos) ((sT a h hc.1).1 _ rfl) ((sT b h hc.2).2.1 rfl (by simp) pos)
      exact ⟨fun e he => by cases he; exact (q _).pt, fun _ _ pos => pw_and1 (q _).pt, fun _ _ pos => pw_or1 (q _).pt⟩
    · cases hc
    · rename_i e rs _ hne
      simp only [Bool.and_eq_true] at hc
      cases rs with
      | nil => exact absurd rfl hne
      | cons f rs =>
        have q := fun pos => t_and (pos := pos) ((sT a h hc.1.2).1 _ rfl) ((sT b h hc.2).2.1 rfl (by simp) pos)
        exact ⟨(fun e he => by cases he), fun _ _ pos => q pos, fun z => (by rw [z] at hc; cases hc.1.1)⟩
    · cases hc
  | .or a b, X, W, k, h, op, es, hc => by
    simp only [cT] at hc
    split at hc
    · rename_i e f rs pp
      simp only [Bool.and_eq_true] at hc
      have q := fun pos => t_or (pos := pos) ((sT a h hc.1).1 _ rfl) ((sT b h hc.2).2.2 rfl (by simp) pos)
      exact ⟨fun e he => by cases he; exact (q _).pt, fun _ _ pos => pw_and1 (q _).pt, fun _ _ pos => pw_or1 (q _).pt⟩
    · cases hc
    · rename_i e rs _ hne
      simp only [Bool.and_eq_true] at hc
      cases rs with
      | nil => exact absurd rfl hne
      | cons f rs =>
        have q := fun pos => t_or (pos := pos) ((sT a h hc.1.2).1 _ rfl) ((sT b h hc.2).2.2 rfl (by simp) pos)
        exact ⟨(fun e he => by cases he), fun z => (by rw [z] at hc; cases hc.1.1), fun _ _ pos => q pos⟩
    · cases hc
  | .not a, X, W, k, h, op, es, hc => by
    simp only [cT] at hc
    split at hc
    · have q := fun pos => t_not (pos := pos) ((sT a h hc).1 _ rfl)
      exact ⟨fun e he => by cases he; exact q _, fun _ _ pos => pw_and1 (q _), fun _ _ pos => pw_or1 (q _)⟩
    · cases hc
theorem sE : ∀ (x : E) {X : Cx} {W : WX} {k : Ck} (h : Hx X T W C k) {e : Expr}, cE k x e = true → PE X e (tE T W (dE C x))
  | .non, X, W, k, h, e, hc => by
    simp only [cE] at hc
    split at hc
    · exact (e_C (d := .non) pe_non fun G H => ⟨rfl, rfl⟩).weak fun σ H Q hh => by simp only [dE] at hh; exact hh
    · cases hc
  | .bl b, X, W, k, h, e, hc => by
    simp only [cE] at hc
    split at hc
    · have e1 := of_decide_eq_true hc
      subst e1
      exact (e_C (d := .bl b) pe_bl fun G H => ⟨rfl, rfl⟩).weak fun σ H Q hh => by simp only [dE] at hh; exact hh
    · cases hc
  | .int i, X, W, k, h, e, hc => by
    simp only [cE] at hc
    split at hc
    · have e1 := of_decide_eq_true hc
      subst e1
      exact (e_C (d := .int i) pe_int fun G H => ⟨rfl, rfl⟩).weak fun σ H Q hh => by simp only [dE] at hh; exact hh
    · cases hc
  | .str s, X, W, k, h, e, hc => by
    simp only [cE] at hc
    split at hc
    · have e1 := of_decide_eq_true hc
      subst e1
      exact (e_C (d := .str s) pe_str fun G H => ⟨rfl, rfl⟩).weak fun σ H Q hh => by simp only [dE] at hh; exact hh
    · cases hc
  | .glob g, X, W, k, h, e, hc => by simp only [cE] at hc; cases hc
  | .rd p, X, W, k, h, e, hc => by
    simp only [cE] at hc
    exact e_rd (sP p h hc)
  | .frz a, X, W, k, h, e, hc => by
    simp only [cE] at hc
    exact e_frz (sE a h hc)
  | .mv i, X, W, k, h, e, hc => by
    simp only [cE] at hc
    exact e_mv (name_ok h hc)
  | .bin op a b, X, W, k, h, e, hc => by
    simp only [cE] at hc
    split at hc
    · simp only [Bool.and_eq_true] at hc
      have e1 := opEq_ok hc.1.1
      subst e1
      exact e_bin (or_bin h.K op) (sO a h hc.1.2) (sO b h hc.2)
    · cases hc
  | .neg a, X, W, k, h, e, hc => by
    simp only [cE] at hc
    split at hc
    · exact e_neg (sO a h hc)
    · cases hc
  | .inv a, X, W, k, h, e, hc => by
    simp only [cE] at hc
    split at hc
    · exact e_inv (sO a h hc)
    · cases hc
  | .cmp o a b, X, W, k, h, e, hc => by
    simp only [cE] at hc
    split at hc
    · simp only [Bool.and_eq_true] at hc
      obtain ⟨⟨⟨h1, h2⟩, h3⟩, h4⟩ := hc
      have e1 := cpEq_ok h1
      subst e1
      exact e_cmp (or_cmp h.K h.un o) (sO a h h3) (sO b h h4) (notSet_ok h2 _)
    · cases hc
  | .chain o o' a b c, X, W, k, h, e, hc => by
    simp only [cE] at hc
    split at hc
    · simp only [Bool.and_eq_true] at hc
      obtain ⟨⟨⟨⟨⟨h1, h2⟩, h3⟩, h4⟩, h5⟩, h6⟩ := hc
      have e1 := cpEq_ok h1
      have e2 := cpEq_ok h2
      subst e1 e2
      exact e_chain (or_cmp h.K h.un o) (or_cmp h.K h.un o') (sO a h h4) (sO b h h5) (sO c h h6) (notSet_ok h3 _)
    · cases hc
  | .andv a b, X, W, k, h, e, hc => by
    simp only [cE] at hc
    split at hc
    · simp only [Bool.and_eq_true] at hc
      exact e_andv (sE a h hc.1) (pe_one (sE b h hc.2))
    · simp only [Bool.and_eq_true] at hc
      exact e_andv (sE a h hc.1) (sE b h hc.2)
    · cases hc
  | .orv a b, X, W, k, h, e, hc => by
    simp only [cE] at hc
    split at hc
    · simp only [Bool.and_eq_true] at hc
      exact e_orv (sE a h hc.1) (pe_one (sE b h hc.2))
    · simp only [Bool.and_eq_true] at hc
      exact e_orv (sE a h hc.1) (sE b h hc.2)
    · cases hc
  | .notv a, X, W, k, h, e, hc => by
    simp only [cE] at hc
    split at hc
    · exact e_notv h.K (sO a h hc)
    · cases hc
  | .ife t a b, X, W, k, h, e, hc => by
    simp only [cE] at hc
    split at hc
    · simp only [Bool.and_eq_true] at hc
      exact e_ife ((sT t h hc.1.1).1 _ rfl) (sE a h hc.1.2) (sE b h hc.2)
    · cases hc
  | .sub a i, X, W, k, h, e, hc => by
    simp only [cE] at hc
    split at hc
    · simp only [Bool.and_eq_true] at hc
      exact e_sub h.K (by have := h.un; omega) (sO a h hc.1.2) (sO i h hc.2) (ix_ok hc.1.1)
    · cases hc
  | .slc a lo hi n, X, W, k, h, e, hc => by
    simp only [cE] at hc
    split at hc
    · simp only [Bool.and_eq_true] at hc
      refine e_slc h.K (sO a h hc.1.1) ?_ ?_
      · have q := hc.1.2
        split at q
        · cases lo with
          | nil => exact opt_none
          | cons x xs => simp only [cEs] at q; cases q
        · cases lo with
          | nil => simp only [cEs] at q; cases q
          | cons x xs =>
            simp only [cEs, Bool.and_eq_true] at q
            cases xs with
            | nil => exact opt_some (sE x h q.1.1)
            | cons y ys => simp only [cEs] at q; cases q.2
      · have q := hc.2
        split at q
        · cases hi with
          | nil => exact opt_none
          | cons x xs => simp only [cEs] at q; cases q
        · cases hi with
          | nil => simp only [cEs] at q; cases q
          | cons x xs =>
            simp only [cEs, Bool.and_eq_true] at q
            cases xs with
            | nil => exact opt_some (sE x h q.1.1)
            | cons y ys => simp only [cEs] at q; cases q.2
    · cases hc
  | .rev a, X, W, k, h, e, hc => by
    simp only [cE] at hc
    split at hc
    · exact e_rev h.K (sO a h hc)
    · cases hc
  | .lst es, X, W, k, h, e, hc => by
    simp only [cE] at hc
    split at hc
    · exact e_lst (sEs es h hc).1
    · cases hc
  | .tup es, X, W, k, h, e, hc => by
    simp only [cE] at hc
    split at hc
    · exact e_tup (sEs es h hc).1
    · cases hc
  | .dnew b, X, W, k, h, e, hc => by
    simp only [cE] at hc
    split at hc
    · subst hc
      exact e_dnew
    · cases hc
  | .dd1 a b, X, W, k, h, e, hc => by
    simp only [cE] at hc
    split at hc
    · rw [Bool.and_eq_true] at hc
      exact e_dd1 (sE a h hc.1) (sE b h hc.2)
    · cases hc
  | .blt b os, X, W, k, h, e, hc => by
    have one : ∀ {x : Str} {a : Expr}, blName b = some x → bltCall k x e = some [a] → bl1 b = true → cOs k os [a] = true → PE X e (tE T W (dE C (.blt b os))) := by
      intro x a hx hb h1 ho
      obtain ⟨p, pos, rfl, hb, pl⟩ := bltCall_ok hb
      obtain ⟨hg, hm⟩ := blt_ok h hb
      have pl : plainE a = true := by simpa using pl
      cases os with
      | nil => simp only [cOs] at ho; cases ho
      | cons o os =>
        cases os with
        | cons o2 os => simp only [cOs, Bool.and_eq_true] at ho; cases ho.2
        | nil =>
          simp only [cOs, Bool.and_eq_true] at ho
          have ha := sO o h (W := W) ho.1.1
          cases b <;> first | cases hx; done | cases h1; done | skip
          · cases hx; exact e_callB1 (cr_len h.K) hg hm PySem.boot_len ha pl
          · cases hx; exact e_callB1 cr_abs hg hm PyProof.Rows.boot_abs ha pl
          · cases hx; exact e_callT1 cr_int hg hm PyProof.Rows.boot_int ha pl
          · cases hx; exact e_callT1 cr_bool hg hm PyProof.Rows.boot_bool ha pl
          · cases hx; exact e_callB1 (cr_min1 h.K h.calm) hg hm PyProof.Rows.boot_min ha pl
          · cases hx; exact e_callB1 (cr_max1 h.K h.calm) hg hm PyProof.Rows.boot_max ha pl
          · cases hx; exact e_callB1 (cr_sumL h.K h.calm) hg hm PyProof.Rows.boot_sum ha pl
          · cases hx; exact e_callT1 (cr_listL h.K h.calm) hg hm PyProof.Rows.boot_list ha pl
          · cases hx; exact e_callT1 (cr_tupleL h.K h.calm) hg hm PyProof.Rows.boot_tuple ha pl
          · cases hx; exact e_callB1 (cr_sortedL h.K (by have := h.un; omega) h.calm) hg hm PyProof.Rows.boot_sorted ha pl
          · cases hx; exact e_callB1 (cr_anyL h.calm) hg hm PyProof.Rows.boot_any ha pl
          · cases hx; exact e_callB1 (cr_allL h.calm) hg hm PyProof.Rows.boot_all ha pl
    have two : ∀ {x : Str} {a c : Expr}, blName b = some x → bltCall k x e = some [a, c] → bl1 b = false → cOs k os [a, c] = true → PE X e (tE T W (dE C (.blt b os))) := by
      intro x a c hx hb h1 ho
      obtain ⟨p, pos, rfl, hb, pl⟩ := bltCall_ok hb
      obtain ⟨hg, hm⟩ := blt_ok h hb
      have pl : plainE a = true ∧ plainE c = true := by simpa using pl
      cases os with
      | nil => simp only [cOs] at ho; cases ho
      | cons o os =>
        cases os with
        | nil => simp only [cOs, Bool.and_eq_true] at ho; cases ho.2
        | cons o2 os =>
          cases os with
          | cons o3 os => simp only [cOs, Bool.and_eq_true] at ho; cases ho.2.2
          | nil =>
            simp only [cOs, Bool.and_eq_true] at ho
            have ha := sO o h (W := W) ho.1.1
            have hc2 := sO o2 h (W := W) ho.2.1.1
            cases b <;> first | cases hx; done | cases h1; done | skip
            · cases hx; exact e_callB2 (cr_min2 h.calm) hg hm PyProof.Rows.boot_min ha hc2 pl.1 pl.2
            · cases hx; exact e_callB2 (cr_max2 h.calm) hg hm PyProof.Rows.boot_max ha hc2 pl.1 pl.2
    have op1 : ∀ {a : Expr}, cOs k os [a] = true → ∃ o, os = .cons o .nil ∧ PE X a (tO T W (dO C o)) ∧ plainE a = true := by
      intro a ho
      cases os with
      | nil => simp only [cOs] at ho; cases ho
      | cons o os =>
        cases os with
        | cons o2 os => simp only [cOs, Bool.and_eq_true] at ho; cases ho.2
        | nil =>
          simp only [cOs, Bool.and_eq_true] at ho
          exact ⟨o, rfl, sO o h ho.1.1, ho.1.2⟩
    simp only [cE] at hc
    split at hc
    · -- len(set(..))
      split at hc
      · rename_i a ha
        obtain ⟨p, pos, rfl, hb, pl⟩ := bltCall_ok ha
        obtain ⟨hg, hm⟩ := blt_ok h hb
        split at hc
        · rename_i c hcc
          obtain ⟨p2, pos2, rfl, hb2, pl2⟩ := bltCall_ok hcc
          obtain ⟨hg2, hm2⟩ := blt_ok h hb2
          obtain ⟨o, rfl, q, pl3⟩ := op1 hc
          exact e_lenset h.calm hg hm hg2 hm2 q pl3
        · cases hc
      · cases hc
    · split at hc
      · rename_i a ha
        obtain ⟨p, pos, rfl, hb, pl⟩ := bltCall_ok ha
        obtain ⟨hg, hm⟩ := blt_ok h hb
        split at hc
        · rename_i c hcc
          obtain ⟨p2, pos2, rfl, hb2, pl2⟩ := bltCall_ok hcc
          obtain ⟨hg2, hm2⟩ := blt_ok h hb2
          obtain ⟨o, rfl, q, pl3⟩ := op1 hc
          exact e_sortedset h.K h.calm hg hm hg2 hm2 q pl3
        · cases hc
      · cases hc
    · split at hc
      · rename_i t a c ha
        obtain ⟨p, pos, rfl, hb, pl⟩ := bltCall_ok ha
        obtain ⟨hg, hm⟩ := blt_ok h hb
        simp only [Bool.and_eq_true] at hc
        obtain ⟨o, rfl, q, pl3⟩ := op1 hc.2
        have pl : plainE a = true ∧ plainE c = true := by simpa using pl
        exact e_isinst h.K hg hm q (ty_ok h hc.1) pl.1 pl.2
      · cases hc
    · split at hc
      · rename_i t u a c d x1 p3 ha
        obtain ⟨p, pos, rfl, hb, pl⟩ := bltCall_ok ha
        obtain ⟨hg, hm⟩ := blt_ok h hb
        simp only [Bool.and_eq_true] at hc
        obtain ⟨o, rfl, q, pl3⟩ := op1 hc.2
        have plc : plainE c = true := by
          have q := hc.1.1
          unfold tyB at q
          split at q <;> first | rfl | cases q
        have pld : plainE d = true := by
          have q := hc.1.2
          unfold tyB at q
          split at q <;> first | rfl | cases q
        exact e_isinst2 h.K hg hm q (ty_ok h hc.1.1) (ty_ok h hc.1.2) pl3 plc pld
      · cases hc
    · split at hc
      · rename_i x hx
        split at hc
        · rename_i a hb
          simp only [Bool.and_eq_true] at hc
          exact one hx hb hc.1 hc.2
        · rename_i a c hb
          simp only [Bool.and_eq_true, Bool.not_eq_true'] at hc
          exact two hx hb hc.1 hc.2
        · cases hc
      · cases hc
  | .call f os, X, W, k, h, e, hc => by
    simp only [cE] at hc
    split at hc
    · rename_i x p as pos
      simp only [Bool.and_eq_true, decide_eq_true_eq] at hc
      obtain ⟨⟨h1, h2⟩, h3⟩ := hc
      obtain ⟨g1, g2⟩ := gl_ok h h2
      have q := sOs os h h3
      cases as with
      | nil =>
        cases os with
        | nil => exact e_call0 (h.call f x h1) h.tk g1 g2
        | cons o os => simp only [cOs] at h3; cases h3
      | cons a as => exact e_call (h.call f x h1) h.tk g1 g2 q.1 q.2
    · cases hc
  | .make f c z os, X, W, k, h, e, hc => by
    simp only [cE] at hc
    split at hc
    · rename_i x p as pos
      simp only [Bool.and_eq_true, decide_eq_true_eq] at hc
      obtain ⟨⟨⟨h1, h2⟩, h3⟩, h4⟩ := hc
      obtain ⟨g1, g2⟩ := gl_ok h h2
      have q := sOs os h h3
      cases as with
      | nil => cases h4
      | cons a as => exact e_make (h.mak f c x h1) h.tk g1 g2 q.1 q.2
    · cases hc
  | .meth f c a os, X, W, k, h, e, hc => by
    simp only [cE] at hc
    split at hc
    · rename_i v m ap as p
      simp only [Bool.and_eq_true, decide_eq_true_eq] at hc
      obtain ⟨⟨⟨⟨⟨⟨h1, h2⟩, h3⟩, h4⟩, h5⟩, h6⟩, h7⟩ := hc
      have q := sOs os h h5
      cases as with
      | nil =>
        cases os with
        | nil => exact e_meth0 (h.cls h2) (h.me f c m h1) h.tk (sO a h h4) (ab_ok _ h3) h7
        | cons o os => simp only [cOs] at h5; cases h5
      | cons x as => exact e_meth (h.cls h2) (h.me f c m h1) h.tk (sO a h h4) q.1 (ab_ok _ h3) q.2 h6 h7
    · cases hc
  | .bm m p es, X, W, k, h, e, hc => by
    simp only [cE] at hc
    split at hc
    · rename_i v x ap as q
      simp only [Bool.and_eq_true, decide_eq_true_eq] at hc
      obtain ⟨⟨⟨⟨⟨⟨h1, h2⟩, h3⟩, h4⟩, h5⟩, h6⟩, h7⟩ := hc
      have ho := sP p h (W := W) h3
      have ha := sEs es h (W := W) h4
      cases m <;> first | cases h1; done | skip
      · -- append
        cases h1
        cases as with
        | nil => cases h7
        | cons a as => exact e_bmL bm_append rfl PySem.F.slot_list_append PySem.F.type_list_append mt_append ho ha.1 (ab_ok _ h2) ha.2 h5 h6
      · cases h1
        cases as with
        | cons a as => cases h7
        | nil =>
          cases es with
          | cons x xs => simp only [cEs] at h4; cases h4
          | nil => exact e_bmL0 bm_pop0 rfl PySem.F.slot_list_pop PySem.F.type_list_pop mt_pop ho (ab_ok _ h2) h6
      · cases h1
        cases as with
        | nil => cases h7
        | cons a as =>
          cases as with
          | cons b as => simp at h7
          | nil => exact e_bmL bm_pop1 rfl PySem.F.slot_list_pop PySem.F.type_list_pop mt_popAt ho ha.1 (ab_ok _ h2) ha.2 h5 h6
      · cases h1
        cases as with
        | nil => cases h7
        | cons a as =>
          cases as with
          | nil => cases h7
          | cons b as =>
            cases as with
            | cons c as => simp at h7
            | nil => exact e_bmL bm_insert rfl PySem.F.slot_list_insert PySem.F.type_list_insert mt_insert ho ha.1 (ab_ok _ h2) ha.2 h5 h6
      · cases h1
        cases as with
        | nil => cases h7
        | cons a as =>
          cases as with
          | cons b as => simp at h7
          | nil => exact e_bmL bm_remove rfl PySem.F.slot_list_remove PySem.F.type_list_remove mt_remove ho ha.1 (ab_ok _ h2) ha.2 h5 h6
      · cases h1
        cases as with
        | cons a as => cases h7
        | nil =>
          cases es with
          | cons x xs => simp only [cEs] at h4; cases h4
          | nil => exact e_bmL0 bm_reverse rfl PySem.F.slot_list_reverse PySem.F.type_list_reverse mt_reverse ho (ab_ok _ h2) h6
      · cases h1
        cases as with
        | cons a as => cases h7
        | nil =>
          cases es with
          | cons x xs => simp only [cEs] at h4; cases h4
          | nil => exact e_bmL0 bm_clear rfl PySem.F.slot_list_clear PySem.F.type_list_clear mt_clear ho (ab_ok _ h2) h6
      · cases h1
        cases es with
        | nil => cases as with
          | nil => cases h7
          | cons a as => simp only [cEs] at h4; cases h4
        | cons x xs =>
          cases xs with
          | nil =>
            cases as with
            | nil => cases h7
            | cons a as =>
              cases as with
              | nil => cases h7
              | cons b as => simp only [cEs, Bool.and_eq_true] at h4; cases h4.2
          | cons y ys =>
            cases as with
            | nil => cases h7
            | cons a as =>
              cases as with
              | nil => cases h7
              | cons b as =>
                cases as with
                | cons c as => simp at h7
                | nil =>
                  cases ys with
                  | cons z zs => simp only [cEs, Bool.and_eq_true] at h4; cases h4.2.2
                  | nil =>
                    have h44 := h4
                    simp only [cEs, Bool.and_eq_true] at h44
                    exact e_setdef ho (sE x h h44.1.1) (sE y h h44.2.1.1) (ab_ok _ h2) ha.2 h6
    · cases hc
  | .fldv a f, X, W, k, h, e, hc => by
    simp only [cE] at hc
    split at hc
    · simp only [Bool.and_eq_true, decide_eq_true_eq] at hc
      obtain ⟨⟨⟨⟨h1, h2⟩, h3⟩, h4⟩, h5⟩ := hc
      rw [h3, ← h.fl]
      exact e_fldv (h.cls h1) (sO a h h5) (ab_ok _ h4)
    · cases hc
  | .rng os, X, W, k, h, e, hc => by
    simp only [cE] at hc
    split at hc
    · rename_i a ha
      obtain ⟨p, pos, rfl, hb, pl⟩ := bltCall_ok ha
      obtain ⟨hg, hm⟩ := blt_ok h hb
      split at hc
      · rename_i x hx
        obtain ⟨p2, pos2, rfl, hb2, pl2⟩ := bltCall_ok hx
        obtain ⟨hg2, hm2⟩ := blt_ok h hb2
        have pl2 : plainE x = true := by simpa using pl2
        cases os with
        | nil => simp only [cOs] at hc; cases hc
        | cons o os =>
          cases os with
          | cons o2 os => simp only [cOs, Bool.and_eq_true] at hc; cases hc.2
          | nil =>
            simp only [cOs, Bool.and_eq_true] at hc
            exact e_rng1 h.calm hg hm hg2 hm2 (sO o h hc.1.1) pl2
      · rename_i x y hx
        obtain ⟨p2, pos2, rfl, hb2, pl2⟩ := bltCall_ok hx
        obtain ⟨hg2, hm2⟩ := blt_ok h hb2
        have pl2 : plainE x = true ∧ plainE y = true := by simpa using pl2
        cases os with
        | nil => simp only [cOs] at hc; cases hc
        | cons o os =>
          cases os with
          | nil => simp only [cOs, Bool.and_eq_true] at hc; cases hc.2
          | cons o2 os =>
            cases os with
            | cons o3 os => simp only [cOs, Bool.and_eq_true] at hc; cases hc.2.2
            | nil =>
              simp only [cOs, Bool.and_eq_true] at hc
              exact e_rng2 h.calm hg hm hg2 hm2 (sO o h hc.1.1) (sO o2 h hc.2.1.1) pl2.1 pl2.2
      · cases hc
    · cases hc
  | .lc it tg own cs elt, X, W, k, h, e, hc => by
    simp only [cE] at hc
    split at hc
    · rename_i el t i ifs scope pp
      simp only [Bool.and_eq_true, decide_eq_true_eq] at hc
      obtain ⟨⟨⟨⟨⟨⟨⟨h1, ht⟩, h2⟩, h3⟩, h4⟩, h5⟩, h6⟩, h7⟩ := hc
      have bk := blkOk_by h3
      have ow := own_map k.N own
      have := e_lc (W := W) (own := ownOf k.N own) (pos := pp) h.calm (by rw [h.N]; exact h.nd) (sI it h h1 ht) (by rw [h.N, h.sc]; exact bk) (by rw [ow]; exact h4)
        (tg := tg) (fun s H Ca cl fp => by rw [ow]; exact sG (h.blk bk.kind) tg h5) (fun s H Ca cl fp => sCs cs (h.blk bk.kind) h6) (fun s H Ca cl fp => sE elt (h.blk bk.kind) h7) (notSetF_ok h2)
      rw [ow] at this
      exact this
    · cases hc
  | .lc2 _ _ _ _ _ _ _ _ _, X, W, k, h, e, hc => by simp only [cE] at hc; cases hc
  | .dc _ _ _ _ _ _ _, X, W, k, h, e, hc => by simp only [cE] at hc; cases hc
theorem sCs : ∀ (cs : Cs) {X : Cx} {W : WX} {k : Ck} (h : Hx X T W C k) {es : List Expr}, cCs k cs es = true → PTs X es (tB' T W (dCs C cs))
  | .nil, X, W, k, h, es, hc => by
    simp only [cCs] at hc
    split at hc
    · exact cs_nil
    · cases hc
  | .one t, X, W, k, h, es, hc => by
    simp only [cCs] at hc
    split at hc
    · exact cs_one ((sT t h hc).1 _ rfl)
    · cases hc
theorem sI : ∀ (it : I) {X : Cx} {W : WX} {k : Ck} (h : Hx X T W C k) {tg e : Expr}, cI k it e = true → tgI it tg = true → PI X tg e (tI T W it (dI C it))
  | .seq o, X, W, k, h, tg, e, hc, _ => by
    simp only [cI] at hc
    exact i_seq h.K (sO o h hc)
  | .lock i, X, W, k, h, tg, e, hc, _ => by
    simp only [cI] at hc
    exact i_lock h.K (name_ok h hc)
  | .rng1 a, X, W, k, h, tg, e, hc, _ => by
    simp only [cI] at hc
    split at hc
    · rename_i x hb
      obtain ⟨p, pos, rfl, hb, pl⟩ := bltCall_ok hb
      obtain ⟨hg, hm⟩ := blt_ok h hb
      exact i_rng1 hg hm (sO a h hc) (by simpa using pl)
    · cases hc
  | .rng2 _ _, X, W, k, h, tg, e, hc, _ => by simp only [cI] at hc; cases hc
  | .rng3 _ _ _, X, W, k, h, tg, e, hc, _ => by simp only [cI] at hc; cases hc
  | .enum a, X, W, k, h, tg, e, hc, ht => by
    simp only [cI] at hc
    split at hc
    · rename_i x hb
      obtain ⟨p, pos, rfl, hb, pl⟩ := bltCall_ok hb
      obtain ⟨hg, hm⟩ := blt_ok h hb
      cases tg <;> first | (cases ht; done) | skip
      exact i_enum h.K hg hm (sO a h hc) (by simpa using pl)
    · cases hc
  | .zip a b, X, W, k, h, tg, e, hc, ht => by
    simp only [cI] at hc
    split at hc
    · rename_i x y hb
      obtain ⟨p, pos, rfl, hb, pl⟩ := bltCall_ok hb
      obtain ⟨hg, hm⟩ := blt_ok h hb
      rw [Bool.and_eq_true] at hc
      have pl : plainE x = true ∧ plainE y = true := by simpa using pl
      cases tg <;> first | (cases ht; done) | skip
      exact i_zip h.K hg hm (sO a h hc.1) (sO b h hc.2) pl.1 pl.2
    · cases hc
  | .items _, X, W, k, h, tg, e, hc, _ => by simp only [cI] at hc; cases hc
  | .keys _, X, W, k, h, tg, e, hc, _ => by simp only [cI] at hc; cases hc
  | .vals _, X, W, k, h, tg, e, hc, _ => by simp only [cI] at hc; cases hc
  | .revs _, X, W, k, h, tg, e, hc, _ => by simp only [cI] at hc; cases hc
end
end
end Mp
/-! The checker for statements, and its soundness. -/
namespace Mp
open PySem L2

def notComp (e : Expr) : Bool := match e with
  | .ListComp _ _ _ _ => false | .SetComp _ _ _ _ => false | .DictComp _ _ _ _ _ => false
  | _ => true
def noSwap (t v : Expr) : Bool := match t with
  | .Tuple _ _ _ => (match v with
    | .Tuple _ _ _ => false
    | _ => true)
  | .List _ _ => false
  | _ => true
/-- the exceptions' names: their field, which are named, which are raised -/
structure Cx2 where
  xfn : Str
  xns : List (Nat × Str)
  rss : List (Nat × Str)
def cXe (xfn : Str) (n : Option Str) : Xe → Expr → Bool
  | .what, e => match e with
    | .Attribute (.Name x _) f _ => decide (n = some x) && decide (f = xfn)
    | _ => false
  | .str s, e => match e with
    | .Constant (.str t) _ _ => decide (s = t)
    | _ => false
  | .bl b, e => match e with
    | .Constant (.bool c) _ _ => decide (b = c)
    | _ => false
  | .pair a b, e => match e with
    | .Tuple [l, r] _ _ => cXe xfn n a l && cXe xfn n b r && plainE l && plainE r
    | _ => false
  | _, _ => false
def cXs (k : Ck) (xfn : Str) (n : Option Str) : Xs → List Stmt → Bool
  | .ret e, ss => match ss with
    | [.Return (some x) _] => cXe xfn n e x
    | _ => false
  | .pass, ss => match ss with
    | [.Pass _] => true
    | _ => false
  | .app j e, ss => match ss with
    | [.Expr (.Call (.Attribute (.Name x px) m ap) [a] [] q) _] => decide (m = "append") && nameB k j (.Name x px) && cXe xfn n e a && plainE a && (ap.endLine == q.line)
    | _ => false
  | _, _ => false
def isNil : Ss → Bool
  | .nil => true
  | _ => false
/-- a name for a part of a list -/
def cW (k : Ck) (pr : Nat → Bool) (j i : Nat) (e : E) (r : Ss) (st : Stmt) : Bool := match st with
  | .Assign [.Name x px] ea _ => isNil r && notComp ea && cP k (.ix (.var i) e) ea && cG k pr (.var j) (.Name x px)
  | _ => false
mutual
def cS (k : Ck) (q : Cx2) : S → (Nat → Bool) → Stmt → Bool
  | .asg t e, pr, st => match st with
    | .Assign [et] ea pos => (match t, e, et, ea with
      | .var i, .lc it tg own cs elt, .Name y py, .ListComp el [⟨t', i', ifs, 0⟩] scope p2 =>
        if kd k y = some .local then
          decide (k.N[i]? = some y) && !pr i && (py.line == p2.line) && !(scope.names.any fun (n, k) => n == y && (k == .local || k == .cell)) && cE k (.lc it tg own cs elt) ea
        else cG k pr (.var i) et && cE k (.lc it tg own cs elt) ea
      | _, _, _, _ => notComp ea && noSwap et ea && plainE et && cG k pr t et && cE k e ea)
    | _ => false
  | .sfld p f e, pr, st => match st with
    | .Assign [.Attribute v a _] ea _ => notComp ea && k.cls && decide (f < k.nf) && decide (a = k.fl f) && cP k p v && cE k e ea
    | _ => false
  | .six p i e, pr, st => match st with
    | .Assign [.Subscript v s _] ea _ => notComp ea && notSlice s && cP k p v && cE k i s && cE k e ea
    | _ => false
  | .aug i op e, pr, st => match st with
    | .AugAssign (.Name x _) o ea _ => decide (k.N[i]? = some x) && locB k x && !pr i && augB op o && cE k e ea
    | _ => false
  | .augix p i op e, pr, st => match st with
    | .AugAssign (.Subscript v s _) o ea _ => notSlice s && augB op o && cP k p v && cE k i s && cE k e ea
    | _ => false
  | .ex e, pr, st => match st with
    | .Expr x _ => notComp x && cE k e x
    | _ => false
  | .iff t a b, pr, st => match st with
    | .If c x y _ => cT k t true [c] && cSs k q a pr x && cSs k q b pr y
    | _ => false
  | .for_ it tg body, pr, st => match st with
    | .For t i b [] _ => cI k it i && tgI it t && notSet i && cG k (prL pr it) tg t && cSs k q body (prL pr it) b
    | _ => false
  | .whl t body, pr, st => match st with
    | .While c b [] _ => cT k t true [c] && cSs k q body pr b
    | _ => false
  | .ret e, pr, st => match st with
    | .Return (some x) _ => cE k e x
    | _ => false
  | .retN, pr, st => match st with
    | .Return none _ => true
    | _ => false
  | .rs c es, pr, st => match st with
    | .Raise (some (.Call (.Name x _) [a] [] _)) none _ => decide (q.rss.lookup c = some x) && glB k x && plainE a && cEs k es [a]
    | _ => false
  | .try_ b hs, pr, st => match st with
    | .Try body (h :: hds) [] [] _ => cSs k q b pr body && cHs k q hs pr (h :: hds)
    | _ => false
  | .brk, pr, st => match st with
    | .Break _ => true
    | _ => false
  | .cnt, pr, st => match st with
    | .Continue _ => true
    | _ => false
  | .pass, pr, st => match st with
    | .Pass _ => true
    | .Expr (.Constant (.str _) _ _) _ => true
    | _ => false
  | .never, _, _ => true
  | _, _, _ => false
def cSs (k : Ck) (q : Cx2) : Ss → (Nat → Bool) → List Stmt → Bool
  | .nil, _, ss => match ss with
    | [] => true
    | _ => false
  | .cons s r, pr, ss => match ss with
    | st :: sts => match s with
      | .with_ j i e body => cW k pr j i e r st && cSs k q body (prW pr i j) sts
      | s => cS k q s pr st && cSs k q r pr sts
    | _ => false
def cHs (k : Ck) (q : Cx2) : Hs → (Nat → Bool) → List ExceptHandler → Bool
  | .nil, _, hs => match hs with
    | [] => true
    | _ => false
  | .cons c i s r, pr, hs => match hs with
    | .ExceptHandler (some (.Name x _)) n (b₀ :: suite) _ :: hds => decide (q.xns.lookup c = some x) && glB k x && cXs k q.xfn n s (b₀ :: suite) && cHs k q r pr hds && (match i, n with
      | none, none => true
      | some j, some y => decide (k.N[j]? = some y) && decide (kd k y = some .local) && !pr j && dbg y
      | _, _ => false)
    | _ => false
end
structure Hy (X : Cx) (T : Tab) (W : WX) (C : Cfg) (k : Ck) (q : Cx2) : Prop where
  hx : Hx X T W C k
  stk : X.stack = X.env :: X.outer
  frm : X.env.frame = some X.env.locals
  po : PassesOwn (model X.prog X.w) X.A X.env X.xe
  exf : (q.xns ≠ []) → ExFacts X T C
  xfn : T.xf 0 = q.xfn
  xns : ∀ c x, q.xns.lookup c = some x → X.mg x = some (.ref (T.xa c)) ∧ c < T.nx
  rss : ∀ c x, q.rss.lookup c = some x → Raiser X T c x ∧ c < T.nx
section
variable {X : Cx} {T : Tab} {W : WX} {C : Cfg} {k : Ck} {q : Cx2}
theorem Hy.tr (h : Hy X T W C k q) {W' : WX} {pn : List (Addr × Obj)} {xe : Value → Shared → Prop} (tk : L2.Takes (X.tr pn xe) W') (po : PassesOwn (model X.prog X.w) X.A X.env xe) : Hy (X.tr pn xe) T W' C k q where
  hx := { N := h.hx.N, nd := h.hx.nd, sc := h.hx.sc, kind := h.hx.kind, K := h.hx.K, un := h.hx.un, calm := h.hx.calm, tk := tk, fnc := h.hx.fnc, blt := h.hx.blt, fl := h.hx.fl, nf := h.hx.nf,
          cls := fun hc => ⟨(h.hx.cls hc).cls, (h.hx.cls hc).no⟩, call := fun f x e => ⟨(h.hx.call f x e).ok⟩, me := fun f c m e => ⟨(h.hx.me f c m e).ok, (h.hx.me f c m e).no⟩, mak := fun f c x e => ⟨(h.hx.mak f c x e).ok⟩ }
  stk := h.stk
  frm := h.frm
  po := po
  exf := fun hq => ⟨(h.exf hq).fld, (h.exf hq).xf, (h.exf hq).no, (h.exf hq).sub⟩
  xfn := h.xfn
  xns := h.xns
  rss := fun c x e => ⟨⟨((h.rss c x e).1).ok⟩, (h.rss c x e).2⟩
theorem sw_no {e : Expr} (h : notComp e = true) (t : Option Expr) (l : Nat) (env : PySem.Env) : swapsWith e t l env = pure false := by
  cases e <;> first | rfl | cases h
theorem swsole {v : Expr} (h : notComp v = true) (t : Expr) (l : Nat) (env : PySem.Env) : swapsWithSole [t] v l env = pure false := by
  unfold swapsWithSole
  exact sw_no h _ _ _
theorem sws_no {t v : Expr} (h : noSwap t v = true) (env : PySem.Env) : swappedStores [t] v env = pure none := by
  cases t <;> first | rfl | (cases h; done) | skip
  · cases v <;> first | rfl | cases h
theorem sw_kind {el : Expr} {gs : List Comprehension} {scope : Scope} {p2 py : Pos} {y : Str} {l : Nat} {env : PySem.Env} (h : env.kindOf y ≠ some .local) : swapsWith (.ListComp el gs scope p2) (some (.Name y py)) l env = pure false := by
  have hb : (env.kindOf y == some .local) = false := beq_eq_false_iff_ne.mpr h
  unfold swapsWith
  simp only [hb, Bool.and_false, Bool.false_and]
theorem xe_ok (ef : ExFacts X T C) (hxf : T.xf 0 = q.xfn) {a : Addr} {oe : Obj} {cls : Value} {d : Option Addr} {pn : List (Addr × Obj)} {n : Option Str} {i : Option Nat} (hn : ∀ y, n = some y → ∃ j, i = some j ∧ X.N[j]? = some y ∧ Vis X.env.scope y ∧ dbg y = true)
    (hz : L2.Zc cls d oe) (hf : ∃ vs, oe.data = .fields vs) : ∀ (x : Xe) {e : Expr}, cXe q.xfn n x e = true → PE (X.suite a ((a, oe) :: pn)) e (tXe T C a i cls d x)
  | .what, e, hc => by
    simp only [cXe] at hc
    split at hc
    · simp only [Bool.and_eq_true, decide_eq_true_eq] at hc
      obtain ⟨j, rfl, h1, h2, h3⟩ := hn _ hc.1
      rw [hc.2, ← hxf]
      exact x_what ef h1 h2 (dbg_ok h3).1 (dbg_ok h3).2 hz hf
    · cases hc
  | .str s, e, hc => by
    simp only [cXe] at hc
    split at hc
    · have e1 := of_decide_eq_true hc
      subst e1
      exact x_str
    · cases hc
  | .bl s, e, hc => by
    simp only [cXe] at hc
    split at hc
    · have e1 := of_decide_eq_true hc
      subst e1
      exact x_bl
    · cases hc
  | .pair x y, e, hc => by
    simp only [cXe] at hc
    split at hc
    · simp only [Bool.and_eq_true] at hc
      exact x_pair (xe_ok ef hxf hn hz hf x hc.1.1.1) (xe_ok ef hxf hn hz hf y hc.1.1.2) hc.1.2 hc.2
    · cases hc
  | .eqs s, e, hc => by simp only [cXe] at hc; cases hc
  | .isx s, e, hc => by simp only [cXe] at hc; cases hc
theorem xs_ok {pr : Nat → Bool} (hh : Hx X T W C k) (ef : ExFacts X T C) (hxf : T.xf 0 = q.xfn) {a : Addr} {oe : Obj} {cls : Value} {d : Option Addr} {pn : List (Addr × Obj)} {n : Option Str} {i : Option Nat} (hn : ∀ y, n = some y → ∃ j, i = some j ∧ X.N[j]? = some y ∧ Vis X.env.scope y ∧ dbg y = true)
    (hz : L2.Zc cls d oe) (hf : ∃ vs, oe.data = .fields vs) : ∀ (s : Xs) {ss : List Stmt}, cXs k q.xfn n s ss = true → PSs (X.suite a ((a, oe) :: pn)) ss (tXS T C pr a i cls d s)
  | .ret x, ss, hc => by
    simp only [cXs] at hc
    split at hc
    · exact pss_one (x_ret (σ := []) (xe_ok ef hxf hn hz hf x hc))
    · cases hc
  | .pass, ss, hc => by
    simp only [cXs] at hc
    split at hc
    · exact pss_one x_pass
    · cases hc
  | .app j x, ss, hc => by
    simp only [cXs] at hc
    split at hc
    · rename_i y px m ap ea' q' p'
      simp only [Bool.and_eq_true, decide_eq_true_eq] at hc
      obtain ⟨⟨⟨⟨h1, h2⟩, h3⟩, h4⟩, h5⟩ := hc
      subst h1
      unfold nameB at h2
      simp only [Bool.and_eq_true, decide_eq_true_eq] at h2
      obtain ⟨⟨n1, n2⟩, n3⟩ := h2
      exact pss_one (x_app (by rw [hh.N]; exact n1) (vis_ok hh n2) (dbg_ok n3).1 (dbg_ok n3).2 (xe_ok ef hxf hn hz hf x h3) h4 h5)
    · cases hc
  | .iff _ _ _, ss, hc => by simp only [cXs] at hc; cases hc
mutual
theorem sS : ∀ (s : S) {X : Cx} {W : WX} {pr : Nat → Bool} (h : Hy X T W C k q) {st : Stmt}, cS k q s pr st = true → PS X st (tS T W pr (dS C s))
  | .asg t e, X, W, pr, h, st, hc => by
    simp only [cS] at hc
    split at hc
    · rename_i et ea pos
      split at hc
      · rename_i i it tg own cs elt y py el t' i' ifs scope p2
        have ky : X.env.kindOf y = kd k y := by
          unfold Env.kindOf kd
          rw [h.hx.sc]
        split at hc
        · rename_i hl
          simp only [Bool.and_eq_true, decide_eq_true_eq, Bool.not_eq_true'] at hc
          obtain ⟨⟨⟨⟨h1, h2⟩, h3⟩, h4⟩, h5⟩ := hc
          simp only [cE, Bool.and_eq_true, decide_eq_true_eq] at h5
          obtain ⟨⟨⟨⟨⟨⟨⟨c1, ct⟩, c2⟩, c3⟩, c4⟩, c5⟩, c6⟩, c7⟩ := h5
          have bk := blkOk_by c3
          have ow := own_map k.N own
          have hx := h.hx
          have hyl : X.env.scope.names.lookup y = some .local := by rw [hx.sc]; exact hl
          have := s_lc (W := W) (own := ownOf k.N own) (pos := p2) (spos := pos) (py := py) h2 hx.calm (by rw [hx.N]; exact hx.nd) (by rw [hx.N]; exact h1) hyl (sw_true (by rw [hx.sc]; exact hx.kind) hyl h3 h4) (sI it hx c1 ct) (by rw [hx.N, hx.sc]; exact bk) (by rw [ow]; exact c4)
            (tg := tg) (fun s H Ca cl fp => by rw [ow]; exact sG (hx.blk bk.kind) tg c5) (fun s H Ca cl fp => sCs cs (hx.blk bk.kind) c6) (fun s H Ca cl fp => sE elt (hx.blk bk.kind) c7) (notSetF_ok c2)
          rw [ow] at this
          exact this
        · rename_i hl
          simp only [Bool.and_eq_true] at hc
          exact s_asg (sE _ h.hx hc.2) (sG h.hx _ hc.1) (sw_kind (l := pos.line) (by rw [ky]; exact hl)) rfl rfl
      · simp only [Bool.and_eq_true] at hc
        exact s_asg (sE _ h.hx hc.2) (sG h.hx _ hc.1.2) (sw_no hc.1.1.1.1 _ _ _) (sws_no hc.1.1.1.2 _) hc.1.1.2
    · cases hc
  | .par _ _ _ _, X, W, pr, h, st, hc => by simp only [cS] at hc; cases hc
  | .sfld p f e, X, W, pr, h, st, hc => by
    simp only [cS] at hc
    split at hc
    · simp only [Bool.and_eq_true, decide_eq_true_eq] at hc
      obtain ⟨⟨⟨⟨⟨h1, h2⟩, h3⟩, h4⟩, h5⟩, h6⟩ := hc
      rw [h4, ← h.hx.fl]
      exact s_sfld (h.hx.cls h2) (by rw [← h.hx.nf]; exact h3) (sE e h.hx h6) (sP p h.hx h5) (sw_no h1 _ _ _)
    · cases hc
  | .six p i e, X, W, pr, h, st, hc => by
    simp only [cS] at hc
    split at hc
    · simp only [Bool.and_eq_true] at hc
      obtain ⟨⟨⟨⟨h1, h2⟩, h3⟩, h4⟩, h5⟩ := hc
      exact s_six (by have := h.hx.un; omega) (sE e h.hx h5) (sP p h.hx h3) (sE i h.hx h4) h2 (swsole h1 _ _ _) rfl
    · cases hc
  | .aug i op e, X, W, pr, h, st, hc => by
    simp only [cS] at hc
    split at hc
    · simp only [Bool.and_eq_true, decide_eq_true_eq, Bool.not_eq_true'] at hc
      obtain ⟨⟨⟨⟨h1, h2⟩, h3⟩, h4⟩, h5⟩ := hc
      obtain ⟨l1, l2⟩ := loc_ok h.hx h2
      exact s_aug (by rw [h.hx.N]; exact h.hx.nd) (by rw [h.hx.N]; exact h1) l1 l2 h3 (sE e h.hx h5) h4
    · cases hc
  | .augix p i op e, X, W, pr, h, st, hc => by
    simp only [cS] at hc
    split at hc
    · simp only [Bool.and_eq_true] at hc
      obtain ⟨⟨⟨⟨h1, h2⟩, h3⟩, h4⟩, h5⟩ := hc
      exact s_augix h.hx.K (by have := h.hx.un; omega) (sP p h.hx h3) (sE i h.hx h4) (sE e h.hx h5) h2 (augStore_ok h1)
    · cases hc
  | .augfld _ _ _ _, X, W, pr, h, st, hc => by simp only [cS] at hc; cases hc
  | .ex e, X, W, pr, h, st, hc => by
    simp only [cS] at hc
    split at hc
    · simp only [Bool.and_eq_true] at hc
      exact s_ex (sE e h.hx hc.2) (sw_no hc.1 _ _ _)
    · cases hc
  | .iff t a b, X, W, pr, h, st, hc => by
    simp only [cS] at hc
    split at hc
    · simp only [Bool.and_eq_true] at hc
      exact s_if ((sT t h.hx hc.1.1).1 _ rfl) (sSs a h hc.1.2) (sSs b h hc.2)
    · cases hc
  | .with_ _ _ _ _, X, W, pr, h, st, hc => by simp only [cS] at hc; cases hc
  | .for_ it tg body, X, W, pr, h, st, hc => by
    simp only [cS] at hc
    split at hc
    · simp only [Bool.and_eq_true] at hc
      exact s_for h.po h.hx.calm (sI it h.hx hc.1.1.1.1 hc.1.1.1.2) (sG h.hx tg hc.1.2) (sSs body h hc.2) (notSetF_ok hc.1.1.2)
    · cases hc
  | .whl t body, X, W, pr, h, st, hc => by
    simp only [cS] at hc
    split at hc
    · simp only [Bool.and_eq_true] at hc
      exact s_whl h.po ((sT t h.hx hc.1).1 _ rfl) (sSs body h hc.2)
    · cases hc
  | .ret e, X, W, pr, h, st, hc => by
    simp only [cS] at hc
    split at hc
    · exact s_ret (sE e h.hx hc)
    · cases hc
  | .retN, X, W, pr, h, st, hc => by
    simp only [cS] at hc
    split at hc
    · exact s_retN
    · cases hc
  | .rs c es, X, W, pr, h, st, hc => by
    simp only [cS] at hc
    split at hc
    · simp only [Bool.and_eq_true, decide_eq_true_eq] at hc
      obtain ⟨⟨⟨h1, h2⟩, h3⟩, h4⟩ := hc
      obtain ⟨g1, g2⟩ := gl_ok h.hx h2
      obtain ⟨r1, r2⟩ := h.rss _ _ h1
      exact s_rs r1 r2 h.hx.calm h.hx.tk g1 g2 (sEs es h.hx h4).1 h3
    · cases hc
  | .try_ b hs, X, W, pr, h, st, hc => by
    simp only [cS] at hc
    split at hc
    · rename_i body h0 hds pos
      simp only [Bool.and_eq_true] at hc
      have ne : q.xns ≠ [] := by
        intro z
        have h2 := hc.2
        cases hs with
        | nil => simp only [cHs] at h2; cases h2
        | cons c i s r =>
          simp only [cHs] at h2
          split at h2
          · simp only [Bool.and_eq_true, decide_eq_true_eq] at h2
            have := h2.1.1.1.1
            rw [z] at this
            cases this
          · cases h2
      obtain ⟨l, hh⟩ := sHs hs h (h.exf ne) hc.2
      exact s_try (h.exf ne) h.stk h.frm (by rw [h.hx.N]; exact h.hx.nd) h.hx.tk (fun W' pn xe tk po => sSs b (h.tr tk po) hc.1) hh
    · cases hc
  | .brk, X, W, pr, h, st, hc => by
    simp only [cS] at hc
    split at hc
    · exact s_brk
    · cases hc
  | .cnt, X, W, pr, h, st, hc => by
    simp only [cS] at hc
    split at hc
    · exact s_cnt
    · cases hc
  | .pass, X, W, pr, h, st, hc => by
    simp only [cS] at hc
    split at hc
    · exact s_pass
    · exact s_doc
    · cases hc
  | .never, X, W, pr, h, st, hc => s_never
theorem sSs : ∀ (ss : Ss) {X : Cx} {W : WX} {pr : Nat → Bool} (h : Hy X T W C k q) {sts : List Stmt}, cSs k q ss pr sts = true → PSs X sts (tS T W pr (dSs C ss))
  | .nil, X, W, pr, h, sts, hc => by
    simp only [cSs] at hc
    split at hc
    · exact ss_nil
    · cases hc
  | .cons s r, X, W, pr, h, sts, hc => by
    cases sts with
    | nil => simp only [cSs] at hc; cases hc
    | cons st sts =>
      cases s with
      | with_ j i e body =>
        simp only [cSs] at hc
        rw [Bool.and_eq_true] at hc
        obtain ⟨hw, hb⟩ := hc
        unfold cW at hw
        split at hw
        · rename_i x px ea pos
          simp only [Bool.and_eq_true] at hw
          obtain ⟨⟨⟨w1, w2⟩, w3⟩, w4⟩ := hw
          cases r with
          | cons _ _ => cases w1
          | nil =>
            simp only [cG, Bool.and_eq_true, decide_eq_true_eq, Bool.not_eq_true'] at w4
            obtain ⟨⟨h1, h2⟩, h3⟩ := w4
            obtain ⟨l1, l2⟩ := loc_ok h.hx h2
            exact ss_with (sP _ h.hx w3) (pg_name (by rw [h.hx.N]; exact h.hx.nd) (by rw [h.hx.N]; exact h1) l1 l2) h3 (swsole w2 _ _ _) rfl rfl (sSs body h hb)
        · cases hw
      | _ =>
        simp only [cSs, Bool.and_eq_true] at hc
        exact ss_cons (sS _ h hc.1) (sSs r h hc.2)
theorem sHs : ∀ (hs : Hs) {X : Cx} {W : WX} {pr : Nat → Bool} (h : Hy X T W C k q) (ef : ExFacts X T C) {hds : List ExceptHandler}, cHs k q hs pr hds = true → ∃ l, HsOk X T C pr hds hs l
  | .nil, X, W, pr, h, ef, hds, hc => by
    simp only [cHs] at hc
    split at hc
    · exact ⟨[], .nil⟩
    · cases hc
  | .cons c i s r, X, W, pr, h, ef, hds, hc => by
    simp only [cHs] at hc
    split at hc
    · rename_i x np n b₀ suite pos hds
      simp only [Bool.and_eq_true, decide_eq_true_eq] at hc
      obtain ⟨⟨⟨⟨h1, h2⟩, h3⟩, h4⟩, h5⟩ := hc
      obtain ⟨g1, g2⟩ := gl_ok h.hx h2
      obtain ⟨m1, m2⟩ := h.xns _ _ h1
      obtain ⟨l, hl⟩ := sHs r h ef h4
      have nm : Names X x (.ref (T.xa c)) := ⟨g1, g2, .inl m1⟩
      split at h5
      · refine ⟨_, .cons (k := ⟨.ref (T.xa c), none, fun a cls d => tXS T C pr a none cls d s⟩) (.cons nm (fun a oe cls d pn hz hf => xs_ok h.hx ef h.xfn (by intro y z; cases z) hz hf s h3) .nil) rfl rfl rfl m2 (by intro j z; cases z) hl⟩
      · rename_i j y
        simp only [Bool.and_eq_true, decide_eq_true_eq, Bool.not_eq_true'] at h5
        obtain ⟨⟨⟨k1, k2⟩, k3⟩, k4⟩ := h5
        have hi : X.N[j]? = some y := by rw [h.hx.N]; exact k1
        have hln : X.env.kindOf y = some .local := by
          unfold Env.kindOf
          rw [h.hx.sc]
          exact k2
        refine ⟨_, .cons (k := ⟨.ref (T.xa c), some j, fun a cls d => tXS T C pr a (some j) cls d s⟩) (.as_ nm hi hln (fun a oe cls d pn hz hf => xs_ok h.hx ef h.xfn (fun y' z => by cases z; exact ⟨j, rfl, hi, .inl hln, k4⟩) hz hf s h3) .nil) rfl rfl rfl m2 (fun j' z => by cases z; exact ⟨k3, (List.getElem?_eq_some_iff.mp hi).1⟩) hl⟩
      · cases h5
    · cases hc
end
end
end Mp
/-! A def keeps what its denotation says. -/
namespace Mp
open PySem L2

theorem Ext.refl' (H : Hp) : Ext H H := fun _ _ h => h
section
variable {T : Tab} {G H : Hp}
theorem outs_ok : ∀ {prot : List Bool} {ρ : Env} {σ : L2.St} {vs : List V} {F : List Addr}, RpE T G H ρ σ F → F.Nodup → prot.length = vs.length → (∀ (i : Nat) (v : V), prot[i]? = some true → vs[i]? = some v → σ[i]? = some (some v)) →
    ∃ F', F'.Nodup ∧ (∀ a ∈ F', a ∈ F) ∧ RpL T G H (outsOf prot ρ) vs F'
  | [], ρ, σ, vs, F, re, nd, hl, hk => by
    have : vs = [] := List.length_eq_zero_iff.mp hl.symm
    subst this
    exact ⟨[], List.nodup_nil, (fun _ z => nomatch z), by unfold outsOf; exact ⟨rfl, rfl⟩⟩
  | b :: bs, ρ, σ, [], F, re, nd, hl, hk => by simp at hl
  | b :: bs, [], σ, v :: vs, F, re, nd, hl, hk => by
    obtain ⟨rfl, rfl⟩ := re
    obtain ⟨F', n', s', r'⟩ := outs_ok (prot := bs) (ρ := []) (σ := []) (vs := vs) (F := []) (show RpE T G H [] [] [] from ⟨rfl, rfl⟩) List.nodup_nil (by simpa using hl) (fun i w h1 h2 => by have := hk (i + 1) w (by simpa using h1) (by simpa using h2); simp at this)
    exact ⟨F', n', s', v, vs, [], F', rfl, rfl, by simp only [Rp], r'⟩
  | b :: bs, d :: ρ, σ, v :: vs, F, re, nd, hl, hk => by
    obtain ⟨s, τ, F1, F2, rfl, rfl, r1, r2⟩ := re
    obtain ⟨n1, n2, n3⟩ := List.nodup_append.mp nd
    obtain ⟨F', n', s', r'⟩ := outs_ok (prot := bs) r2 n2 (by simpa using hl) (fun i w h1 h2 => by simpa using hk (i + 1) w (by simpa using h1) (by simpa using h2))
    cases b with
    | false => exact ⟨F', n', fun a ha => List.mem_append_right _ (s' a ha), v, vs, [], F', rfl, rfl, by simp only [Rp], r'⟩
    | true =>
      have e := hk 0 v rfl rfl
      simp only [List.getElem?_cons_zero, Option.some.injEq] at e
      subst e
      rcases r1 with ⟨rfl, rfl⟩ | ⟨w, ew, r1⟩
      · exact ⟨F', n', fun a ha => List.mem_append_right _ (s' a ha), v, vs, [], F', rfl, rfl, by simp only [Rp], r'⟩
      · cases ew
        exact ⟨F1 ++ F', List.nodup_append.mpr ⟨n1, n', fun a ha b hb => n3 a ha b (s' b hb)⟩, fun a ha => (List.mem_append.mp ha).elim (fun z => List.mem_append_left _ z) fun z => List.mem_append_right _ (s' a z), v, vs, F1, F', rfl, rfl, r1, r'⟩
end
/-- a def of the module that may be called at the level -/
def FnAt (P : Program) (w : World) (K : PySem.W.Frag) (mg : Str → Option Value) (base : Heap) (T : Tab) (lvl : Nat) (fn : Fn) (a : Addr) : Prop :=
  ∃ j fd ps, j ≤ lvl ∧ FnOk P w K mg base (L2.CX P w) j a fd ps (spOf T fn) ∧ Binds K fd ps []
/-- what the module says, for a body of the level -/
structure Wd (P : Program) (w : World) (K : PySem.W.Frag) (mg : Str → Option Value) (base : Heap) (T : Tab) (lvl : Nat) (C : Cfg) (k : Ck) (q : Cx2) : Prop where
  eK : K = T.K
  nd : k.N.Nodup
  kind : k.sc.kind = .function
  blt : ∀ x, bltNames.contains x = true → mg x = none
  fl : ∀ f, T.fnm f = k.fl f
  nf : k.nf = T.nf
  cls : k.cls = true → (∀ c, Cls K (T.ca c)) ∧ ∀ c f, f < T.nf → NoAttr K (T.ca c) (T.fnm f)
  call : ∀ f x, k.fns.lookup f = some x → ∃ a, FnAt P w K mg base T lvl (C.fn f) a ∧ mg x = some (.ref a) ∧ PySem.W.keepIn K (.ref a) = true
  me : ∀ f c m, k.mes.lookup f = some (c, m) → (∃ a, FnAt P w K mg base T lvl (C.fn f) a ∧ Meth K (T.ca c) m a) ∧ ∀ g, g < T.nf → T.fnm g ≠ m
  mak : ∀ f c x, k.mks.lookup f = some (c, x) → ∃ a l2, l2 + 1 = lvl ∧ FnAt P w K mg base T l2 (C.fn f) a ∧ mg x = some (.ref (T.ca c)) ∧ Mk K (T.ca c) a
  exf : q.xns ≠ [] → (∀ c, T.xf c = T.xf 0) ∧ (∀ c, XfC K (T.xa c)) ∧ (∀ c, PySem.W.findIn K (.ref (T.xa c)) (T.xf 0) = some none) ∧ ∀ c c', c < T.nx → c' < T.nx → PySem.W.exmOne K (.ref (T.xa c)) (.ref (T.xa c')) = some (C.sub c c')
  xfn : T.xf 0 = q.xfn
  xns : ∀ c x, q.xns.lookup c = some x → mg x = some (.ref (T.xa c)) ∧ c < T.nx
  rss : ∀ c x, q.rss.lookup c = some x → (∃ j fI fd ps, j + 1 ≤ lvl ∧ OexC K (T.xa c) ∧ PySem.W.findIn K (.ref (T.xa c)) "__init__" = some (some (.ref fI)) ∧ PySem.W.typeIn K (.ref fI) = some (.type "function") ∧ FnOk P w K mg base (L2.CX P w) j fI fd ps (spX T c) ∧ Binds K fd ps [] ∧ mg x = some (.ref (T.xa c))) ∧ c < T.nx
section
variable {P : Program} {w : World} {K : PySem.W.Frag} {mg : Str → Option Value} {base : Heap} {T : Tab} {lvl : Nat} {C : Cfg} {k : Ck} {q : Cx2}
theorem Wd.hy (wd : Wd P w K mg base T lvl C k q) {X : Cx} {W : WX} (e1 : X.prog = P) (e2 : X.w = w) (e3 : X.K = K) (e4 : X.mg = mg) (e5 : X.base = base) (hr : Room lvl X.A) (hN : X.N = k.N) (hsc : X.env.scope = k.sc) (hc : X.calm = true) (tk : L2.Takes X W) (hfn : ∀ x, X.fn x = true)
    (stk : X.stack = X.env :: X.outer) (frm : X.env.frame = some X.env.locals) (po : PassesOwn (model X.prog X.w) X.A X.env X.xe) : Hy X T W C k q := by
  subst e1 e2 e3 e4 e5
  refine ⟨⟨hN, wd.nd, hsc, wd.kind, wd.eK, by have := hr.un; omega, hc, tk, fun x _ => hfn x, wd.blt, wd.fl, wd.nf, fun h => ⟨(wd.cls h).1, (wd.cls h).2⟩, fun f x e => ?_, fun f c m e => ?_, fun f c x e => ?_⟩, stk, frm, po, fun h => ?_, wd.xfn, wd.xns, fun c x e => ?_⟩
  · obtain ⟨a, ⟨j, fd, ps, hj, F, hb⟩, hm, hk⟩ := wd.call f x e
    exact ⟨j, a, fd, ps, F, hr.mono hj, hm, hk, hb⟩
  · obtain ⟨⟨a, ⟨j, fd, ps, hj, F, hb⟩, hm⟩, no⟩ := wd.me f c m e
    exact ⟨⟨j, a, fd, ps, F, hr.mono hj, hm, hb⟩, no⟩
  · obtain ⟨a, l2, el, ⟨j, fd, ps, hj, F, hb⟩, hm, M⟩ := wd.mak f c x e
    exact ⟨j, a, fd, ps, F, hr.mono (by omega), hm, M, hb⟩
  · obtain ⟨a, b, c, d⟩ := wd.exf h
    exact ⟨a, b, c, d⟩
  · obtain ⟨⟨j, fI, fd, ps, hj, ox, iC, tI, F, hb, hm⟩, hc⟩ := wd.rss c x e
    exact ⟨⟨j, fI, fd, ps, ox, iC, tI, F, hr.mono hj, hb, hm⟩, hc⟩
theorem kp_start {pr : Nat → Bool} {N : List Str} {vs : List V} {σ' : L2.St} (k : Kp pr (L2.start N vs) σ') {i : Nat} {v : V} (hp : pr i = true) (hv : vs[i]? = some v) : σ'[i]? = some (some v) := by
  rw [k.2 i hp]
  unfold L2.start
  have hi := (List.getElem?_eq_some_iff.mp hv).1
  rw [List.getElem?_append_left (by simpa using hi), List.getElem?_map, hv]
  rfl
/-- the rule of a def -/
theorem fn_ok {f : Addr} {name qual : Str} {params : Arguments} {body : List Stmt} {scope : Scope} {dV kV doc pm cdv ct oc : Value} {an od : Option Addr} {osl : Array (Option Value)} {ps : List Str} {df : Df}
    (wd : Wd P w K mg base T lvl C k q) (lk : K.lookup f = some ⟨oc, od, .func (PySem.W.fnOf name qual params body scope dV kV doc pm an cdv ct), osl⟩) (hcd : PySem.W.codeIn K cdv qual = true) (S : FnScope k.N ps scope) (hsc : scope = k.sc)
    (hprot : df.prot.length = ps.length) (hsl : df.slots = k.N.length) (hck : cSs k q df.body (fun i => df.prot.getD i false) body = true) :
    FnOk P w K mg base (L2.CX P w) (lvl + 1) f (PySem.W.fnOf name qual params body scope dV kV doc pm an cdv ct) ps (spOf T (dF C df)) := by
  have len : ∀ vs H Q E, spOf T (dF C df) vs H Q E → vs.length = ps.length := fun vs H Q E ⟨G, ds, F, ex, rl, nd, gn, h⟩ => by
    unfold dF at h
    cases hl : decide (ds.length = df.prot.length) with
    | false => simp only [hl] at h
    | true =>
      have hl := of_decide_eq_true hl
      rw [rl.length, hl, hprot]
  refine fn_of lk hcd S len fun A outer s H vs Q E hr h => ⟨tS T (fun cls d _ H' => E cls d H') (fun i => df.prot.getD i false) (dSs C df.body), ?_, ?_⟩
  · refine sSs (k := k) (q := q) df.body (wd.hy rfl rfl rfl rfl rfl hr rfl hsc rfl (L2.takes_of rfl rfl rfl rfl) (fun _ => rfl) rfl rfl (L2.passes_of rfl)) hck
  · have hvs := len _ _ _ _ h
    obtain ⟨G, ds, F, ex, rl, nd, gn, h⟩ := h
    unfold dF at h
    cases hl : decide (ds.length = df.prot.length) with
    | false => simp only [hl] at h
    | true =>
      simp only [hl] at h
      have hl := of_decide_eq_true hl
      have e1 : df.slots - ds.length = k.N.length - vs.length := by rw [hsl, rl.length]
      have re : RpE T G H (ds ++ List.replicate (df.slots - ds.length) .gone) (L2.start k.N vs) F := by
        have := (RpE.ofL rl).append (RpE.none (T := T) (G := G) (H := H) (k.N.length - vs.length))
        rw [List.append_nil] at this
        rw [e1]
        exact this
      refine ⟨G, _, F, ⟨ex, re, nd, gn⟩, ?_⟩
      have pk : ∀ {σ' : L2.St}, Kp (fun i => df.prot.getD i false) (L2.start k.N vs) σ' → ∀ i v, df.prot[i]? = some true → vs[i]? = some v → σ'[i]? = some (some v) := fun kp i v h1 h2 => kp_start kp (by rw [List.getD_eq_getElem?_getD, h1]; rfl) h2
      have lp : df.prot.length = vs.length := by rw [hprot, hvs]
      cases ed : dSs C df.body (ds ++ List.replicate (df.slots - ds.length) .gone) with
      | nx ρ' =>
        rw [ed] at h
        intro σ' H' ⟨G', F', st, re', kp⟩
        obtain ⟨F2, n2, s2, ro⟩ := outs_ok re' st.nd lp (pk kp)
        exact h .non H' G' [] F2 (st.less n2 s2) ⟨rfl, rfl⟩ ro
      | ret d ρ' =>
        rw [ed] at h
        intro v σ' H' ⟨G', Fv, F', st, rv, re', kp⟩
        obtain ⟨b1, b2, b3⟩ := List.nodup_append.mp st.nd
        obtain ⟨F2, n2, s2, ro⟩ := outs_ok re' b2 lp (pk kp)
        exact h v H' G' Fv F2 (st.less (List.nodup_append.mpr ⟨b1, n2, fun a ha b hb => b3 a ha b (s2 b hb)⟩) fun a ha => (List.mem_append.mp ha).elim (fun z => List.mem_append_left _ z) fun z => List.mem_append_right _ (s2 a z)) rv ro
      | exc c x ρ' =>
        rw [ed] at h
        intro σ' kp H' dd ⟨G', F', st, re', w', hd, rx, xo⟩
        exact h H' dd G' w' (st.less List.nodup_nil (fun _ z => nomatch z)) hd rx xo
      | bk ρ' => rw [ed] at h; exact h.elim
      | ct ρ' => rw [ed] at h; exact h.elim
      | stuck => rw [ed] at h; exact h.elim
end
end Mp
/-! An own exception's __init__: Base.__init__(self, text + what); self.what = what. -/
namespace Mp
open PySem PySem.Spec PyProof.Rows L2
section
variable {X : Cx} {o e : Expr} {es : List Expr} {ta : TA} {p1 p2 pos : Pos} {bs : Str} {CB : Addr}
theorem pe_einit (hg : Gl X bs) (hdb : (bs == ("__debug__" : Str)) = false) (hm : X.mg bs = some (.ref CB)) (hsp : PySem.W.specialIn X.K (.ref CB) "__getattribute__" = some (some (.builtin "type.__getattribute__"))) (hr : PySem.W.readsIn X.K CB (.type "type") = true)
    (vV : PySem.W.findCls X.K (.ref CB) (.type "type") "__init__" = some (.val (.builtin "ValueError.__init__"))) (ha : PA X (e :: es) ta) (pl : (e :: es).all plainE = true) (l : (e :: es).length < 30) (hl : (p2.endLine == pos.line) = true) :
    PE X (.Call (.Attribute (.Name bs p1) "__init__" p2) (e :: es) [] pos) (tVeI X.K ta) := by
  refine ⟨fun pins s σ H Q I h => ?_⟩
  refine PySem.W.methodCall_KW (ld_glob I hg hm ?_ hdb) (mcall_ht (attrBase_ok _ rfl) pl l hl)
  refine PySem.W.method_cls I.kIn hsp (PySem.W.cls_value I.kIn hr vV (by decide +kernel) ?_)
  show wpAny _ _ (callWith pos (Value.builtin "ValueError.__init__") [] (backTo pos (starEach (e :: es) X.env)) []) _ _ _
  rw [List.all_cons, Bool.and_eq_true] at pl
  refine PyProof.Rows.callWith_method1 (thn (ha.run pos pins _ σ H _ (I.tok _) h) fun us s1 ⟨vs, H1, I1, r1, a, C, ws, ev, hl, T, ea, q⟩ => ?_) (star_cons pl.1 es X.env) (star_any pl.2 X.env pos)
  subst ev
  cases r1 with
  | @cons _ u0 _ ur ra rw' =>
    obtain rfl : u0 = Value.ref a := ra
    have hlen : ur.length ≤ sizeLine := by
      rw [← Paired.length rw', sizeLine_eq]
      omega
    exact oinit_ok T I1 ea hlen fun s' J => ⟨.non, H1, J, rfl, q⟩
end
section
variable {P : Program} {w : World} {K : PySem.W.Frag} {mg : Str → Option Value} {base : Heap} {T : Tab} {lvl c : Nat} {CB : Addr} {bs sf wh t : Str}
theorem exc_ok {f : Addr} {name qual : Str} {params : Arguments} {body : List Stmt} {scope : Scope} {dV kV doc pm cdv ct oc : Value} {an od : Option Addr} {osl : Array (Option Value)} {j : _} {q1 q2 q3 q4 q5 q6 q7 q8 q9 q10 q11 q12 : Pos}
    (lk : K.lookup f = some ⟨oc, od, .func (PySem.W.fnOf name qual params body scope dV kV doc pm an cdv ct), osl⟩) (hcd : PySem.W.codeIn K cdv qual = true) (S : FnScope [sf, wh] [sf, wh] scope)
    (hbs : scope.names.lookup bs = some .globalImplicit) (hdb : (bs == ("__debug__" : Str)) = false) (d1 : dbg sf = true) (d2 : dbg wh = true) (hm : mg bs = some (.ref CB)) (hsp : PySem.W.specialIn K (.ref CB) "__getattribute__" = some (some (.builtin "type.__getattribute__"))) (hr : PySem.W.readsIn K CB (.type "type") = true)
    (vV : PySem.W.findCls K (.ref CB) (.type "type") "__init__" = some (.val (.builtin "ValueError.__init__"))) (ox : OexC K (T.xa c)) (no : PySem.W.findIn K (.ref (T.xa c)) (T.xf c) = some none)
    (hbody : body = [.Expr (.Call (.Attribute (.Name bs q1) "__init__" q2) [.Name sf q3, .BinOp (.Constant (.str t) j q4) .Add (.Name wh q5) q6] [] q7) q8, .Assign [.Attribute (.Name sf q9) (T.xf c) q10] (.Name wh q11) q12]) (hl : (q2.endLine == q7.line) = true) (tl : t.length ≤ 1000) :
    FnOk P w K mg base (L2.CX P w) (lvl + 1) f (PySem.W.fnOf name qual params body scope dV kV doc pm an cdv ct) [sf, wh] (spX T c) := by
  refine fn_of lk hcd S (fun vs H Q E ⟨a, z, e, _⟩ => by rw [e]; rfl) fun A outer s H vs Q E hrm ⟨a, z, ev, hz, ha, kk⟩ => ?_
  subst ev hbody
  generalize hX : cxOf (L2.CX P w) P w K mg base [sf, wh] qual scope f cdv A outer s H E = X
  have eK : X.K = K := by rw [← hX]; rfl
  have eN : X.N = [sf, wh] := by rw [← hX]; rfl
  have esc : X.env.scope = scope := by rw [← hX]; rfl
  have emg : X.mg = mg := by rw [← hX]; rfl
  have v0 : Vis X.env.scope sf := by
    rw [esc]
    exact (S.par sf (by simp)).imp id .inl
  have v1 : Vis X.env.scope wh := by
    rw [esc]
    exact (S.par wh (by simp)).imp id .inl
  have n0 : ∀ q, PE X (.Name sf q) (tVar 0) := fun q => pe_var (by rw [eN]; rfl) v0 (dbg_ok d1).1 (dbg_ok d1).2
  have n1 : ∀ q, PE X (.Name wh q) (tVar 1) := fun q => pe_var (by rw [eN]; rfl) v1 (dbg_ok d2).1 (dbg_ok d2).2
  have gl : Gl X bs := by
    unfold Gl Env.kindOf
    rw [esc]; exact hbs
  have pa : PA X [.Name sf q3, .BinOp (.Constant (.str t) j q4) .Add (.Name wh q5) q6] _ := pa_cons (n0 q3) (pa_cons (pe_op (pos := q6) op_add_str pe_str (n1 q5)) pa_nil)
  have c1 := pe_einit (p1 := q1) (p2 := q2) (pos := q7) gl hdb (by rw [emg]; exact hm) (by rw [eK]; exact hsp) (by rw [eK]; exact hr) (by rw [eK]; exact vV) pa rfl (show 2 < 30 by decide) hl
  have c2 := ps_ost (pos := q12) (p' := q10) (f := T.xf c) (n0 q9) (n1 q11) rfl
  refine ⟨_, pss_cons (ps_expr c1 rfl) (pss_cons c2 pss_nil), ?_⟩
  have s0 : (L2.start [sf, wh] [V.ref a, V.str z])[0]? = some (some (V.ref a)) := rfl
  have s1 : (L2.start [sf, wh] [V.ref a, V.str z])[1]? = some (some (V.str z)) := rfl
  refine ⟨_, s0, _, s1, t, z, rfl, rfl, by rw [sizeLine_eq]; omega, a, T.xa c, [.str (t ++ z)], rfl, by simp, by rw [eK]; exact ox, ha, ?_⟩
  refine ⟨_, s1, _, s0, a, T.xa c, rfl, by rw [eK]; exact ox, by rw [eK]; exact no, .inl ⟨ha, fun dx hd ne => kk dx hd ne⟩⟩
end
end Mp
/-! The hook of a law: facts of the module. -/
namespace Mp
open PySem PySem.Spec PyProof.Rows L2 He

def oexB (K : PySem.W.Frag) (C : Addr) : Bool := match K.lookup C with
  | some ⟨.type "type", _, .cls cd, sl⟩ => (match cd.mro, sl.toList with
    | .ref C' :: bm, [_, _, _, _, some (.builtin n), _] => C' == C && n == "ValueError.__new__" && !cd.hasDel && cd.hasDict && PySem.HandSPX.refsVE bm
    | _, _ => false)
  | _ => false
theorem oexB_ok {K : PySem.W.Frag} {C : Addr} (q : oexB K C = true) : ∃ nm q N bs bm sn sub ab col dd k0 k1 k2 k3 k5, K.lookup C = some (excClassObj nm q C N bs bm true sn sub ab col dd k0 k1 k2 k3 k5 "ValueError.__new__") ∧ PySem.HandSPX.refsVE bm = true := by
  unfold oexB at q
  split at q
  · rename_i dd cd sl ho
    split at q
    · rename_i C' bm k0 k1 k2 k3 n k5 hm hs
      simp only [Bool.and_eq_true, beq_iff_eq, Bool.not_eq_true'] at q
      obtain ⟨⟨⟨⟨rfl, rfl⟩, hdel⟩, hdi⟩, ht⟩ := q
      obtain ⟨nm, bs, mro, ns, qn, hd, sn, sub, ab, col, del⟩ := cd
      dsimp only at hm hdel hdi
      subst hm hdel hdi
      have hsl : sl = #[k0, k1, k2, k3, some (.builtin "ValueError.__new__"), k5] := by
        obtain ⟨l⟩ := sl
        simp only at hs
        rw [hs]
      subst hsl
      exact ⟨_, _, _, _, _, _, _, _, _, _, _, _, _, _, _, ho, ht⟩
    · cases q
  · cases q
/-- the facts of the exception class x over the own class b (no __init__ of its own) -/
def excB (xfn : Str) (b : Str) (K : PySem.W.Frag) (x : Str) : Bool :=
  oexB K (ga K x) && (eqO (PySem.W.findIn K (.ref (ga K x)) "__setattr__") (some (some (.builtin "object.__setattr__"))) && (decide (PySem.W.subIn K (.ref (ga K x)) (.type "BaseException") = some true) && (decide (PySem.W.typeIn K (.ref (ga K x)) = some (.type "type")) && (PySem.W.keepIn K (.ref (ga K x)) &&
    (xfB K (ga K x) && (eqO (PySem.W.findIn K (.ref (ga K x)) xfn) (some none) && (eqO (PySem.W.findIn K (.ref (ga K x)) "__init__") (some (some (.ref (ma K (ga K x) "__init__")))) && decide (PySem.W.typeIn K (.ref (ma K (ga K x) "__init__")) = some (.type "function")))))))))
structure ExcF (K : PySem.W.Frag) (xfn : Str) (C fI : Addr) : Prop where
  ox : OexC K C
  xf : XfC K C
  no : PySem.W.findIn K (.ref C) xfn = some none
  iC : PySem.W.findIn K (.ref C) "__init__" = some (some (.ref fI))
  tI : PySem.W.typeIn K (.ref fI) = some (.type "function")
theorem excB_ok {xfn b : Str} {K : PySem.W.Frag} {x : Str} (h : excB xfn b K x = true) : ExcF K xfn (ga K x) (ma K (ga K x) "__init__") := by
  obtain ⟨h1, h⟩ := ba h
  obtain ⟨h2, h⟩ := ba h
  obtain ⟨h3, h⟩ := ba h
  obtain ⟨h4, h⟩ := ba h
  obtain ⟨h5, h⟩ := ba h
  obtain ⟨h6, h⟩ := ba h
  obtain ⟨h7, h⟩ := ba h
  obtain ⟨h8, h9⟩ := ba h
  exact ⟨⟨oexB_ok h1, eqO_ok h2, of_decide_eq_true h3, of_decide_eq_true h4, h5⟩, xfB_ok h6, eqO_ok h7, eqO_ok h8, of_decide_eq_true h9⟩
/-- the base class, whose __init__ is ValueError's -/
def baseB (K : PySem.W.Frag) (b : Str) : Bool := decide (PySem.W.specialIn K (.ref (ga K b)) "__getattribute__" = some (some (.builtin "type.__getattribute__"))) && (PySem.W.readsIn K (ga K b) (.type "type") && (match PySem.W.findCls K (.ref (ga K b)) (.type "type") "__init__" with
  | some (.val (.builtin n)) => decide (n = "ValueError.__init__")
  | _ => false))
theorem baseB_ok {K : PySem.W.Frag} {b : Str} (h : baseB K b = true) : PySem.W.specialIn K (.ref (ga K b)) "__getattribute__" = some (some (.builtin "type.__getattribute__")) ∧ PySem.W.readsIn K (ga K b) (.type "type") = true ∧ PySem.W.findCls K (.ref (ga K b)) (.type "type") "__init__" = some (.val (.builtin "ValueError.__init__")) := by
  obtain ⟨h1, h⟩ := ba h
  obtain ⟨h2, h3⟩ := ba h
  refine ⟨of_decide_eq_true h1, h2, ?_⟩
  split at h3
  · rename_i n e
    rw [e, of_decide_eq_true h3]
  · cases h3
/-! ### the Hook -/
abbrev AlM : Type := AlD × Bool
def obsM (n : Nat) (fa : List Fa) (fn : List DefD) (ex : PySem.W.Frag → Bool) (g : Addr → Option Obj) : AlM := (obsD fa fn (frG g (asD g n ++ growD g [cStatics])), ex (frG g (asD g n ++ growD g [cStatics])))
def hookM (n : Nat) (fa : List Fa) (fn : List DefD) (ex : PySem.W.Frag → Bool) : PySem.W.Hook where
  α := AlM
  obs := fun s => obsM n fa fn ex s.heap.get?
  val := fun _ => (valD fn, true)
  says := fun _ h => ∃ K : PySem.W.Frag, K.In h ∧ SaysD fa fn K ∧ ex K = true
  of := fun _ _ e => ⟨_, frG_in, congrArg (fun z : AlM => z.1) e, congrArg (fun z : AlM => z.2) e⟩
  keeps := fun _ _ _ ⟨K, hK, c⟩ k => ⟨K, PySem.W.Frag.In.keeps hK k, c⟩
theorem obsM_eq {n : Nat} {fa : List Fa} {fn : List DefD} {ex : PySem.W.Frag → Bool} {g : Addr → Option Obj} {s : Shared} (h : ∀ a, g a = s.heap.get? a) : obsM n fa fn ex g = (hookM n fa fn ex).obs s := by
  have e : g = s.heap.get? := funext h
  rw [e] <;> rfl
end Mp
/-! A module's facts, put together. -/
namespace Mp
open PySem PySem.Spec PyProof.Rows L2 He

/-- the names of a module's things -/
structure Nm where
  gls : List Str
  cls : List Str
  fls : List Str
  exs : List Str
  xfn : Str
  sub : Nat → Nat → Bool
theorem getD_inj {l : List Str} (nd : l.Nodup) {i j : Nat} (hi : i < l.length) (hj : j < l.length) (e : l.getD i "" = l.getD j "") : i = j := by
  rw [List.getD_eq_getElem?_getD, List.getD_eq_getElem?_getD, List.getElem?_eq_getElem hi, List.getElem?_eq_getElem hj] at e
  exact (List.getElem_inj nd).mp e
theorem getD_mem {l : List Str} (h : l ≠ []) (i : Nat) : l.getD i (l.headD "") ∈ l := by
  cases l with
  | nil => exact absurd rfl h
  | cons a l =>
    rw [List.getD_eq_getElem?_getD]
    cases e : (a :: l)[i]? with
    | none => exact List.mem_cons_self
    | some x => exact List.mem_of_getElem? e
def tabOf (n : Nm) (K : PySem.W.Frag) (nd : n.fls.Nodup) : Tab := ⟨K, fun c => ga K (n.cls.getD c (n.cls.headD "")), fun f => n.fls.getD f "", n.fls.length, fun _ _ h1 h2 e => getD_inj nd h1 h2 e, fun c => ga K (n.exs.getD c (n.exs.headD "")), fun _ => n.xfn, n.exs.length⟩
def exmB (n : Nm) (K : PySem.W.Frag) : Bool := (List.range n.exs.length).all fun c => (List.range n.exs.length).all fun c' => decide (PySem.W.exmOne K (.ref (ga K (n.exs.getD c (n.exs.headD "")))) (.ref (ga K (n.exs.getD c' (n.exs.headD "")))) = some (n.sub c c'))
def moB (n : Nm) (K : PySem.W.Frag) : Bool := (bltNames.all fun x => (Fa.free x).ok K) && ((n.gls.all fun x => (Fa.glo x).ok K) && ((n.cls.all fun x => (Fa.cls x).ok K && n.fls.all fun f => (Fa.noat x f).ok K) && ((n.exs.all fun x => xfB K (ga K x) && eqO (PySem.W.findIn K (.ref (ga K x)) n.xfn) (some none)) && exmB n K)))
/-- what the module says -/
structure Mo (n : Nm) (K : PySem.W.Frag) (mg : Str → Option Value) : Prop where
  blt : ∀ x, bltNames.contains x = true → mg x = none
  glo : ∀ x, n.gls.contains x = true → mg x = some (.ref (ga K x))
  cls : n.cls ≠ [] → ∀ c, Cls K (ga K (n.cls.getD c (n.cls.headD "")))
  noat : n.cls ≠ [] → ∀ c f, f < n.fls.length → NoAttr K (ga K (n.cls.getD c (n.cls.headD ""))) (n.fls.getD f "")
  xf : n.exs ≠ [] → ∀ c, XfC K (ga K (n.exs.getD c (n.exs.headD "")))
  no : n.exs ≠ [] → ∀ c, PySem.W.findIn K (.ref (ga K (n.exs.getD c (n.exs.headD "")))) n.xfn = some none
  exm : ∀ c c', c < n.exs.length → c' < n.exs.length → PySem.W.exmOne K (.ref (ga K (n.exs.getD c (n.exs.headD "")))) (.ref (ga K (n.exs.getD c' (n.exs.headD "")))) = some (n.sub c c')
theorem mo_of {n : Nm} {K : PySem.W.Frag} {mg : Str → Option Value} {h : Heap} (X : K.In h) (G : h.Ns mainGlobals mg) (q : moB n K = true) : Mo n K mg := by
  obtain ⟨h1, q⟩ := ba q
  obtain ⟨h2, q⟩ := ba q
  obtain ⟨h3, q⟩ := ba q
  obtain ⟨h4, h5⟩ := ba q
  refine ⟨fun x hx => free_ok X G (List.all_eq_true.mp h1 x (List.contains_iff_mem.mp hx)), fun x hx => glo_ok X G (List.all_eq_true.mp h2 x (List.contains_iff_mem.mp hx)), fun hn c => cls_ok (ba (List.all_eq_true.mp h3 _ (getD_mem hn c))).1, fun hn c f hf => ?_, fun hn c => xfB_ok (ba (List.all_eq_true.mp h4 _ (getD_mem hn c))).1, fun hn c => eqO_ok (ba (List.all_eq_true.mp h4 _ (getD_mem hn c))).2, fun c c' hc hc' => ?_⟩
  · refine noat_ok (List.all_eq_true.mp (ba (List.all_eq_true.mp h3 _ (getD_mem hn c))).2 _ ?_)
    rw [List.getD_eq_getElem?_getD, List.getElem?_eq_getElem hf]
    exact List.getElem_mem hf
  · exact of_decide_eq_true (List.all_eq_true.mp (List.all_eq_true.mp h5 c (List.mem_range.mpr hc)) c' (List.mem_range.mpr hc'))
section
variable {β : Type} {Q : Nat → β → Prop} {g : Nat} {y : β} {l : List (Nat × β)}
theorem lk_nil : ∀ f x, ([] : List (Nat × β)).lookup f = some x → Q f x := fun _ _ h => nomatch h
theorem lk_cons (h : Q g y) (r : ∀ f x, l.lookup f = some x → Q f x) : ∀ f x, ((g, y) :: l).lookup f = some x → Q f x := fun f x e => by
  rw [List.lookup_cons] at e
  cases q : (f == g) with
  | true =>
    rw [q] at e
    cases e
    rw [beq_iff_eq.mp q]
    exact h
  | false =>
    rw [q] at e
    exact r f x e
end
section
variable {P : Program} {w : World} {n : Nm} {K : PySem.W.Frag} {mg : Str → Option Value} {base : Heap} {hnd : n.fls.Nodup} {lvl : Nat} {C : Cfg} {k : Ck} {q : Cx2}
theorem FnAt.mono {T : Tab} {l l' : Nat} {fn : Fn} {a : Addr} (h : FnAt P w K mg base T l fn a) (hl : l ≤ l') : FnAt P w K mg base T l' fn a := by
  obtain ⟨j, fd, ps, hj, F, b⟩ := h
  exact ⟨j, fd, ps, by omega, F, b⟩
theorem Mo.wd (M : Mo n K mg) (nd : k.N.Nodup) (kind : k.sc.kind = .function) (fl : k.fl = fun i => n.fls.getD i "") (nf : k.nf = n.fls.length) (hc : k.cls = true → n.cls ≠ []) (hx : q.xns ≠ [] → n.exs ≠ []) (xfn : q.xfn = n.xfn) (sub : C.sub = n.sub)
    (call : ∀ f x, k.fns.lookup f = some x → FnAt P w K mg base (tabOf n K hnd) lvl (C.fn f) (ga K x) ∧ n.gls.contains x = true ∧ PySem.W.keepIn K (.ref (ga K x)) = true)
    (me : ∀ f cm, k.mes.lookup f = some cm → ∃ a, FnAt P w K mg base (tabOf n K hnd) lvl (C.fn f) a ∧ Meth K (ga K (n.cls.getD cm.1 (n.cls.headD ""))) cm.2 a ∧ n.fls.contains cm.2 = false)
    (mak : ∀ f cx, k.mks.lookup f = some cx → ∃ a l2, l2 + 1 = lvl ∧ FnAt P w K mg base (tabOf n K hnd) l2 (C.fn f) a ∧ n.gls.contains cx.2 = true ∧ n.cls.getD cx.1 (n.cls.headD "") = cx.2 ∧ Mk K (ga K cx.2) a)
    (xns : ∀ c x, q.xns.lookup c = some x → n.exs[c]? = some x ∧ n.gls.contains x = true)
    (rss : ∀ c x, q.rss.lookup c = some x → (∃ j fI fd ps, j + 1 ≤ lvl ∧ ExcF K n.xfn (ga K x) fI ∧ FnOk P w K mg base (L2.CX P w) j fI fd ps (spX (tabOf n K hnd) c) ∧ Binds K fd ps []) ∧ n.exs[c]? = some x ∧ n.gls.contains x = true) : Wd P w K mg base (tabOf n K hnd) lvl C k q := by
  have gx : ∀ {c x}, n.exs[c]? = some x → n.exs.getD c (n.exs.headD "") = x := fun e => by rw [List.getD_eq_getElem?_getD, e]; rfl
  have lx : ∀ {c x}, n.exs[c]? = some x → c < n.exs.length := fun e => (List.getElem?_eq_some_iff.mp e).1
  refine ⟨rfl, nd, kind, M.blt, fun f => by rw [fl]; rfl, nf, fun h => ⟨M.cls (hc h), M.noat (hc h)⟩, fun f x e => ?_, fun f c m e => ?_, fun f c x e => ?_, fun h => ⟨fun _ => rfl, M.xf (hx h), M.no (hx h), fun c c' h1 h2 => by rw [sub]; exact M.exm c c' h1 h2⟩, xfn.symm, fun c x e => ?_, fun c x e => ?_⟩
  · obtain ⟨a, b, d⟩ := call f x e
    exact ⟨_, a, M.glo _ b, d⟩
  · obtain ⟨a, b, d, no⟩ := me f (c, m) e
    refine ⟨⟨a, b, d⟩, fun g hg eg => ?_⟩
    have : n.fls.contains m = true := by
      rw [← eg]
      refine List.contains_iff_mem.mpr ?_
      show n.fls.getD g "" ∈ n.fls
      have hg : g < n.fls.length := hg
      rw [List.getD_eq_getElem?_getD, List.getElem?_eq_getElem hg]
      exact List.getElem_mem hg
    rw [this] at no
    cases no
  · obtain ⟨a, l2, el, b, gl, ec, M'⟩ := mak f (c, x) e
    refine ⟨a, l2, el, b, ?_, ?_⟩
    · show mg x = some (.ref (ga K (n.cls.getD c (n.cls.headD ""))))
      rw [ec]; exact M.glo _ gl
    · show Mk K (ga K (n.cls.getD c (n.cls.headD ""))) a
      rw [ec]; exact M'
  · obtain ⟨e1, e2⟩ := xns c x e
    refine ⟨?_, lx e1⟩
    show mg x = some (.ref (ga K (n.exs.getD c (n.exs.headD ""))))
    rw [gx e1]; exact M.glo _ e2
  · obtain ⟨⟨j, fI, fd, ps, hj, E, F, b⟩, e1, e2⟩ := rss c x e
    have ex : (tabOf n K hnd).xa c = ga K x := by
      show ga K (n.exs.getD c (n.exs.headD "")) = ga K x
      rw [gx e1]
    refine ⟨⟨j, fI, fd, ps, hj, by rw [ex]; exact E.ox, by rw [ex]; exact E.iC, E.tI, F, b, by rw [ex]; exact M.glo _ e2⟩, lx e1⟩
/-- the rule of a def, from the head's fact -/
theorem def_ok {name qual : Str} {params : Arguments} {body : List Stmt} {scope : Scope} {f : Addr} {fd : FuncData} {ps : List Str} {df : Df} {T : Tab} (F : FunD K name qual params body scope [] [] f fd) (wd : Wd P w K mg base T lvl C k q) (S : FnScope k.N ps scope) (hsc : scope = k.sc)
    (hprot : df.prot.length = ps.length) (hsl : df.slots = k.N.length) (hck : cSs k q df.body (fun i => df.prot.getD i false) body = true) (hb : Binds K fd ps []) : FnAt P w K mg base T (lvl + 1) (dF C df) f := by
  obtain ⟨oc, od, dV, kV, doc, pm, an, cdv, ct, osl, rfl, lk, hcd, _, _⟩ := F.ex
  exact ⟨lvl + 1, _, ps, Nat.le_refl _, fn_ok wd lk hcd S hsc hprot hsl hck, hb⟩
end
end Mp
/-! The end of a law. -/
namespace Mp
open PySem PySem.Spec PyProof.Rows L2 He
section
variable {P : Program} {w : World} {n : Nm} {K : PySem.W.Frag} {mg : Str → Option Value} {base : Heap} {lvl : Nat} {C : Cfg} {k : Ck} {q : Cx2} {T : Tab}
theorem def_fn {name qual : Str} {params : Arguments} {body : List Stmt} {scope : Scope} {f : Addr} {fd : FuncData} {ps : List Str} {df : Df} (F : FunD K name qual params body scope [] [] f fd) (wd : Wd P w K mg base T lvl C k q) (S : FnScope k.N ps scope) (hsc : scope = k.sc)
    (hprot : df.prot.length = ps.length) (hsl : df.slots = k.N.length) (hck : cSs k q df.body (fun i => df.prot.getD i false) body = true) : FnOk P w K mg base (L2.CX P w) (lvl + 1) f fd ps (spOf T (dF C df)) := by
  obtain ⟨oc, od, dV, kV, doc, pm, an, cdv, ct, osl, rfl, lk, hcd, _, _⟩ := F.ex
  exact fn_ok wd lk hcd S hsc hprot hsl hck
theorem def_none {name qual : Str} {params : Arguments} {body : List Stmt} {scope : Scope} {f : Addr} {fd : FuncData} {N ps : List Str} (F : FunD K name qual params body scope [] [] f fd) (S : FnScope N ps scope) (hb : Binds K fd ps []) (hl : 1 ≤ lvl) : FnAt P w K mg base T lvl (fun _ => .stuck) f := by
  obtain ⟨oc, od, dV, kV, doc, pm, an, cdv, ct, osl, rfl, lk, hcd, _, _⟩ := F.ex
  have no : ∀ {vs H Q E}, spOf T (fun _ => .stuck) vs H Q E → False := fun h => by
    obtain ⟨G, ds, F, _, _, _, _, z⟩ := h
    exact z
  exact ⟨1, _, ps, hl, fn_of (k := 0) lk hcd S (fun _ _ _ _ h => (no h).elim) fun _ _ _ _ _ _ _ _ h => (no h).elim, hb⟩
theorem walk_ofX {l : PySem.W.OpenLaw} {n k : Nat} {q : Program} {loose : List Str} {XP : (Str → Option Value) → Heap → Prop} {YP : World → Heap → Prop} {d : DefRec} {x : Str} {m : Fn} {Tf : PySem.W.Frag → Tab} (hT : ∀ K, (Tf K).K = K)
    (hn : l.most = some n) (hn2 : n ≤ sizeLine) (hdf : d.params.defaults = []) (hr : Room k callerA)
    (F : ∀ (w : World) (mg : Str → Option Value) (fa : Addr) (h : Heap), YP w h → h.Ns mainGlobals mg → mg d.name = some (.ref fa) →
      ∃ (K : PySem.W.Frag) (fd : FuncData), K.In h ∧ (∀ (s : Shared) (u : Value), BindsTo s fd ⟨[u], []⟩ [(x, u)]) ∧
        ∀ base : Heap, K.In base → base.Ns mainGlobals mg → FnOk l.prog w K mg base (L2.CX l.prog w) k fa fd [x] (spOf (Tf K) m))
    (hm : ∀ ns : List Int, ns.length ≤ n → ∃ outs, m [.scr ns] = .ok (.bl true) outs) :
    PySem.W.WalkO q loose XP YP l.row.toRowW d [] (fun f vs => PySem.call f vs) := by
  refine Att.attach_call hn hdf fun w s₀ s₁ mg mb fa o pm cd doc a vs ns G Y ho hd hcd hmg hobj hints hlen hg => ?_
  obtain ⟨K, fd, KX, hb, hF⟩ := F w mg fa _ Y G.T.g hmg
  refine law_call KX G.T.g G.T.b G.T.builtins G.T.nolimit hg hobj hints (Nat.le_trans hlen hn2) hr hF hb (fun H hO hS => ?_) fun H e s' ⟨a, B, H', cls, d, _, _, _, _, _, _, _, z⟩ => z.elim
  obtain ⟨outs, em⟩ := hm ns hlen
  refine ⟨H, [.scr ns], [], Ext.refl' H, ⟨_, _, [], [], rfl, rfl, ⟨⟨a, rfl, by rw [hT]; exact hS⟩, rfl⟩, rfl, rfl⟩, List.nodup_nil, (fun _ z => nomatch z), ?_⟩
  rw [em]
  intro v H' G' Fv F' _ hv _
  exact hv.1
end
end Mp
namespace k87
open Mp

def gl : Nat → D := fun i => ([] : List D).getD i .gone

def sub : Nat → Nat → Bool := fun i j => ([(0, 0), (1, 1), (1, 0), (2, 2), (2, 0)] : List (Nat × Nat)).contains (i, j)

-- slots: script=0, cells=1, each=2, deck=3, seed=4, k=5, cell=6, rest=7, at=8
def lx_l_law_deck_1 : Ss := (.cons (.ex (.bm .append (.var 3) (.cons (.bin .mod (.tm (.blt .int (.cons (.pl (.var 7)) .nil))) (.tm (.int 1000003))) .nil)))
  (.cons (.asg (.var 7) (.bin .fdiv (.pl (.var 7)) (.tm (.int 1000003))))
  .nil))
def lx_l_law_deck_2 : Ss := (.cons (.asg (.var 4) (.bin .mod (.tm (.blt .int (.cons (.tm (.bin .add (.tm (.bin .add (.tm (.bin .mul (.pl (.var 4)) (.tm (.int 69621)))) (.pl (.var 8)))) (.tm (.int 1)))) .nil))) (.tm (.int 2147483629))))
  (.cons (.ex (.bm .append (.var 3) (.cons (.bin .mod (.tm (.blt .int (.cons (.tm (.bin .fdiv (.pl (.var 4)) (.tm (.int 5)))) .nil))) (.tm (.int 1000003))) .nil)))
  .nil))
def lx_l_law_deck_3 : Ss := (.cons (.asg (.var 6) (.int 0))
  (.cons (.iff (.cmp .lt (.pl (.var 5)) (.tm (.blt .len (.cons (.pl (.var 0)) .nil))))
  (.cons (.asg (.var 6) (.rd (.ix (.var 0) (.rd (.var 5)))))
  .nil)
  .nil)
  (.cons (.asg (.var 7) (.blt .abs (.cons (.pl (.var 6)) .nil)))
  (.cons (.iff (.cmp .ge (.pl (.var 7)) (.tm (.bin .pow (.tm (.int 10)) (.tm (.int 30)))))
  (.cons (.for_ (.rng1 (.pl (.var 2))) (.var 8)
  lx_l_law_deck_1)
  .nil)
  (.cons (.asg (.var 4) (.bin .mod (.tm (.blt .int (.cons (.tm (.bin .add (.tm (.bin .add (.tm (.bin .add (.tm (.bin .mul (.pl (.var 4)) (.tm (.int 48271)))) (.tm (.bin .mul (.tm (.int 2)) (.pl (.var 7)))))) (.tm (.blt .int (.cons (.tm (.cmp .lt (.pl (.var 6)) (.tm (.int 0)))) .nil))))) (.pl (.var 5)))) .nil))) (.tm (.int 2147483647))))
  (.cons (.for_ (.rng1 (.pl (.var 2))) (.var 8)
  lx_l_law_deck_2)
  .nil)))
  .nil))))
def b_l_law_deck : Df := ⟨9, [true, true, true],
  (.cons (.asg (.var 3) (.lst .nil))
  (.cons (.asg (.var 4) (.bin .add (.tm (.int 7)) (.tm (.blt .len (.cons (.pl (.var 0)) .nil)))))
  (.cons (.for_ (.rng1 (.pl (.var 1))) (.var 5)
  lx_l_law_deck_3)
  (.cons (.ex (.bm .reverse (.var 3) .nil))
  (.cons (.ret (.mv 3))
  .nil)))))⟩
def c_l_law_deck : Cfg := ⟨fun i => match i with  | _ => fun _ => .stuck, gl, sub, 100000⟩
@[simp] theorem c_l_law_deck_sub : c_l_law_deck.sub = sub := rfl
@[simp] theorem c_l_law_deck_fuel : c_l_law_deck.fuel = 100000 := rfl
def m_l_law_deck : Fn := dF c_l_law_deck b_l_law_deck

-- slots: deck=0, many=1
def b_l_law_take : Df := ⟨2, [true, true],
  (.cons (.iff (.cmp .eq (.tm (.blt .len (.cons (.pl (.var 0)) .nil))) (.tm (.int 0)))
  (.cons (.ret (.int 0))
  .nil)
  .nil)
  (.cons (.ret (.bin .mod (.tm (.blt .int (.cons (.tm (.bm .pop0 (.var 0) .nil)) .nil))) (.pl (.var 1))))
  .nil))⟩
def c_l_law_take : Cfg := ⟨fun i => match i with  | _ => fun _ => .stuck, gl, sub, 100000⟩
@[simp] theorem c_l_law_take_sub : c_l_law_take.sub = sub := rfl
@[simp] theorem c_l_law_take_fuel : c_l_law_take.fuel = 100000 := rfl
def m_l_law_take : Fn := dF c_l_law_take b_l_law_take

-- slots: deck=0, vertices=1, most=2, turn=3
def ex_l_law_edges_1 : E := (.tup (.cons (.call 1 (.cons (.pl (.var 0)) (.cons (.pl (.var 1)) .nil))) (.cons (.call 1 (.cons (.pl (.var 0)) (.cons (.pl (.var 1)) .nil))) .nil)))
def b_l_law_edges : Df := ⟨4, [true, true, true],
  (.cons (.ret (.lc (.rng1 (.tm (.call 1 (.cons (.pl (.var 0)) (.cons (.tm (.bin .add (.pl (.var 2)) (.tm (.int 1)))) .nil))))) (.var 3) [3] .nil ex_l_law_edges_1))
  .nil)⟩
def c_l_law_edges : Cfg := ⟨fun i => match i with | 1 => m_l_law_take | _ => fun _ => .stuck, gl, sub, 100000⟩
@[simp] theorem c_l_law_edges_1 : c_l_law_edges.fn 1 = m_l_law_take := rfl
@[simp] theorem c_l_law_edges_sub : c_l_law_edges.sub = sub := rfl
@[simp] theorem c_l_law_edges_fuel : c_l_law_edges.fuel = 100000 := rfl
def m_l_law_edges : Fn := dF c_l_law_edges b_l_law_edges

-- slots: self=0, vertices=1, edges=2, first=3, second=4
def ex_Graph___init___1 : E := (.tup (.cons (.rd (.var 3)) (.cons (.rd (.var 4)) .nil)))
def lx_Graph___init___2 : Ss := (.cons (.iff (.or (.not (.chain .le .lt (.tm (.int 0)) (.pl (.var 3)) (.pl (.var 1)))) (.not (.chain .le .lt (.tm (.int 0)) (.pl (.var 4)) (.pl (.var 1)))))
  (.cons (.rs 1 (.cons (.str "edges") .nil))
  .nil)
  .nil)
  .nil)
def b_Graph___init__ : Df := ⟨5, [true, true, true],
  (.cons (.iff (.cmp .lt (.pl (.var 1)) (.tm (.int 0)))
  (.cons (.rs 1 (.cons (.str "vertices") .nil))
  .nil)
  .nil)
  (.cons (.for_ (.lock 2) (.tup (.cons (.var 3) (.cons (.var 4) .nil)))
  lx_Graph___init___2)
  (.cons (.sfld (.var 0) 0 (.rd (.var 1)))
  (.cons (.sfld (.var 0) 1 (.blt .tuple (.cons (.tm (.lc (.lock 2) (.tup (.cons (.var 3) (.cons (.var 4) .nil))) [3, 4] .nil ex_Graph___init___1)) .nil)))
  .nil))))⟩
def c_Graph___init__ : Cfg := ⟨fun i => match i with  | _ => fun _ => .stuck, gl, sub, 100000⟩
@[simp] theorem c_Graph___init___sub : c_Graph___init__.sub = sub := rfl
@[simp] theorem c_Graph___init___fuel : c_Graph___init__.fuel = 100000 := rfl
def m_Graph___init__ : Fn := dF c_Graph___init__ b_Graph___init__

-- slots: graph=0, lower=1, upper=2, edge=3
def cx_check_bounds_1 : Cs := (.one (.cmp .gt (.pl (.ix (.var 1) (.rd (.var 3)))) (.pl (.ix (.var 2) (.rd (.var 3))))))
def ex_check_bounds_2 : E := (.rd (.var 3))
def b_check_bounds : Df := ⟨4, [true, true, true],
  (.cons (.iff (.or (.cmp .ne (.tm (.blt .len (.cons (.pl (.var 1)) .nil))) (.tm (.blt .len (.cons (.pl (.fld (.var 0) 1)) .nil)))) (.cmp .ne (.tm (.blt .len (.cons (.pl (.var 2)) .nil))) (.tm (.blt .len (.cons (.pl (.fld (.var 0) 1)) .nil)))))
  (.cons (.rs 2 (.cons (.str "bounds") .nil))
  .nil)
  .nil)
  (.cons (.iff (.tr (.tm (.lc (.rng1 (.tm (.blt .len (.cons (.pl (.var 1)) .nil)))) (.var 3) [3] cx_check_bounds_1 ex_check_bounds_2)))
  (.cons (.rs 2 (.cons (.str "bounds") .nil))
  .nil)
  .nil)
  .nil))⟩
def c_check_bounds : Cfg := ⟨fun i => match i with  | _ => fun _ => .stuck, gl, sub, 100000⟩
@[simp] theorem c_check_bounds_sub : c_check_bounds.sub = sub := rfl
@[simp] theorem c_check_bounds_fuel : c_check_bounds.fuel = 100000 := rfl
def m_check_bounds : Fn := dF c_check_bounds b_check_bounds

-- slots: graph=0, values=1, found=2, value=3, first=4, second=5
def lx_excess_1 : Ss := (.cons (.augix (.var 2) (.rd (.var 4)) .sub (.rd (.var 3)))
  (.cons (.augix (.var 2) (.rd (.var 5)) .add (.rd (.var 3)))
  .nil))
def b_excess : Df := ⟨6, [true, true],
  (.cons (.asg (.var 2) (.bin .mul (.tm (.lst (.cons (.int 0) .nil))) (.pl (.fld (.var 0) 0))))
  (.cons (.for_ (.zip (.pl (.fld (.var 0) 1)) (.pl (.var 1))) (.tup (.cons (.tup (.cons (.var 4) (.cons (.var 5) .nil))) (.cons (.var 3) .nil)))
  lx_excess_1)
  (.cons (.ret (.mv 2))
  .nil)))⟩
def c_excess : Cfg := ⟨fun i => match i with  | _ => fun _ => .stuck, gl, sub, 100000⟩
@[simp] theorem c_excess_sub : c_excess.sub = sub := rfl
@[simp] theorem c_excess_fuel : c_excess.fuel = 100000 := rfl
def m_excess : Fn := dF c_excess b_excess

-- slots: graph=0, capacities=1
def b_check_capacities : Df := ⟨2, [true, true],
  (.cons (.iff (.or (.cmp .ne (.tm (.blt .len (.cons (.pl (.var 1)) .nil))) (.tm (.blt .len (.cons (.pl (.fld (.var 0) 1)) .nil)))) (.cmp .lt (.tm (.blt .min1 (.cons (.tm (.bin .add (.tm (.blt .list (.cons (.pl (.var 1)) .nil))) (.tm (.lst (.cons (.int 0) .nil))))) .nil))) (.tm (.int 0))))
  (.cons (.rs 2 (.cons (.str "capacities") .nil))
  .nil)
  .nil)
  .nil)⟩
def c_check_capacities : Cfg := ⟨fun i => match i with  | _ => fun _ => .stuck, gl, sub, 100000⟩
@[simp] theorem c_check_capacities_sub : c_check_capacities.sub = sub := rfl
@[simp] theorem c_check_capacities_fuel : c_check_capacities.fuel = 100000 := rfl
def m_check_capacities : Fn := dF c_check_capacities b_check_capacities

-- slots: graph=0, start=1, end=2
def b_check_ends : Df := ⟨3, [true, true, true],
  (.cons (.iff (.or (.cmp .eq (.pl (.var 1)) (.pl (.var 2))) (.or (.not (.chain .le .lt (.tm (.int 0)) (.pl (.var 1)) (.pl (.fld (.var 0) 0)))) (.not (.chain .le .lt (.tm (.int 0)) (.pl (.var 2)) (.pl (.fld (.var 0) 0))))))
  (.cons (.rs 1 (.cons (.str "vertex") .nil))
  .nil)
  .nil)
  .nil)⟩
def c_check_ends : Cfg := ⟨fun i => match i with  | _ => fun _ => .stuck, gl, sub, 100000⟩
@[simp] theorem c_check_ends_sub : c_check_ends.sub = sub := rfl
@[simp] theorem c_check_ends_fuel : c_check_ends.fuel = 100000 := rfl
def m_check_ends : Fn := dF c_check_ends b_check_ends

-- slots: graph=0, capacities=1, stream=2, start=3, found=4, waiting=5, here=6, edge=7, first=8, second=9
def tx_open_ways_1 : T := (.tr (.pl (.var 5)))
def lx_open_ways_2 : Ss := (.cons (.asg (.tup (.cons (.var 8) (.cons (.var 9) .nil))) (.rd (.ix (.fld (.var 0) 1) (.rd (.var 7)))))
  (.cons (.iff (.and (.cmp .eq (.pl (.var 8)) (.pl (.var 6))) (.and (.cmp .notin (.pl (.var 9)) (.pl (.var 4))) (.cmp .lt (.pl (.ix (.var 2) (.rd (.var 7)))) (.pl (.ix (.var 1) (.rd (.var 7)))))))
  (.cons (.six (.var 4) (.rd (.var 9)) (.tup (.cons (.rd (.var 7)) (.cons (.int 1) (.cons (.rd (.var 6)) .nil)))))
  (.cons (.ex (.bm .append (.var 5) (.cons (.rd (.var 9)) .nil)))
  .nil))
  .nil)
  (.cons (.iff (.and (.cmp .eq (.pl (.var 9)) (.pl (.var 6))) (.and (.cmp .notin (.pl (.var 8)) (.pl (.var 4))) (.cmp .gt (.pl (.ix (.var 2) (.rd (.var 7)))) (.tm (.int 0)))))
  (.cons (.six (.var 4) (.rd (.var 8)) (.tup (.cons (.rd (.var 7)) (.cons (.neg (.tm (.int 1))) (.cons (.rd (.var 6)) .nil)))))
  (.cons (.ex (.bm .append (.var 5) (.cons (.rd (.var 8)) .nil)))
  .nil))
  .nil)
  .nil)))
def lx_open_ways_3 : Ss := (.cons (.asg (.var 6) (.bm .pop1 (.var 5) (.cons (.int 0) .nil)))
  (.cons (.for_ (.rng1 (.tm (.blt .len (.cons (.pl (.fld (.var 0) 1)) .nil)))) (.var 7)
  lx_open_ways_2)
  .nil))
def b_open_ways : Df := ⟨10, [true, true, true, true],
  (.cons (.asg (.var 4) (.dd1 (.rd (.var 3)) .non))
  (.cons (.asg (.var 5) (.lst (.cons (.rd (.var 3)) .nil)))
  (.cons (.whl tx_open_ways_1
  lx_open_ways_3)
  (.cons (.ret (.mv 4))
  .nil))))⟩
def c_open_ways : Cfg := ⟨fun i => match i with  | _ => fun _ => .stuck, gl, sub, 100000⟩
@[simp] theorem c_open_ways_sub : c_open_ways.sub = sub := rfl
@[simp] theorem c_open_ways_fuel : c_open_ways.fuel = 100000 := rfl
def m_open_ways : Fn := dF c_open_ways b_open_ways

-- slots: ways=0, end=1, found=2, here=3, edge=4, sign=5
def tx_way_to_1 : T := (.cmp .isnot (.pl (.ix (.var 0) (.rd (.var 3)))) (.tm .non))
def lx_way_to_2 : Ss := (.cons (.asg (.tup (.cons (.var 4) (.cons (.var 5) (.cons (.var 3) .nil)))) (.rd (.ix (.var 0) (.rd (.var 3)))))
  (.cons (.ex (.bm .append (.var 2) (.cons (.tup (.cons (.rd (.var 4)) (.cons (.rd (.var 5)) .nil))) .nil)))
  .nil))
def b_way_to : Df := ⟨6, [true, true],
  (.cons (.asg (.var 2) (.lst .nil))
  (.cons (.asg (.var 3) (.rd (.var 1)))
  (.cons (.whl tx_way_to_1
  lx_way_to_2)
  (.cons (.ret (.mv 2))
  .nil))))⟩
def c_way_to : Cfg := ⟨fun i => match i with  | _ => fun _ => .stuck, gl, sub, 100000⟩
@[simp] theorem c_way_to_sub : c_way_to.sub = sub := rfl
@[simp] theorem c_way_to_fuel : c_way_to.fuel = 100000 := rfl
def m_way_to : Fn := dF c_way_to b_way_to

-- slots: graph=0, capacities=1, start=2, end=3, stream=4, value=5, ways=6, way=7, rooms=8, edge=9, sign=10
def tx_greatest_stream_1 : T := (.cmp .in_ (.pl (.var 3)) (.pl (.var 6)))
def lx_greatest_stream_2 : Ss := (.cons (.augix (.var 4) (.rd (.var 9)) .add (.bin .mul (.pl (.var 10)) (.tm (.blt .min1 (.cons (.pl (.var 8)) .nil)))))
  .nil)
def ex_greatest_stream_3 : E := (.ife (.cmp .eq (.pl (.var 10)) (.tm (.int 1))) (.bin .sub (.pl (.ix (.var 1) (.rd (.var 9)))) (.pl (.ix (.var 4) (.rd (.var 9))))) (.rd (.ix (.var 4) (.rd (.var 9)))))
def lx_greatest_stream_4 : Ss := (.cons (.asg (.var 7) (.call 9 (.cons (.pl (.var 6)) (.cons (.pl (.var 3)) .nil))))
  (.cons (.asg (.var 8) (.lc (.lock 7) (.tup (.cons (.var 9) (.cons (.var 10) .nil))) [9, 10] .nil ex_greatest_stream_3))
  (.cons (.for_ (.lock 7) (.tup (.cons (.var 9) (.cons (.var 10) .nil)))
  lx_greatest_stream_2)
  (.cons (.aug 5 .add (.blt .min1 (.cons (.pl (.var 8)) .nil)))
  (.cons (.asg (.var 6) (.call 8 (.cons (.pl (.var 0)) (.cons (.pl (.var 1)) (.cons (.pl (.var 4)) (.cons (.pl (.var 2)) .nil))))))
  .nil)))))
def b_greatest_stream : Df := ⟨11, [true, true, true, true],
  (.cons (.ex (.call 6 (.cons (.pl (.var 0)) (.cons (.pl (.var 1)) .nil))))
  (.cons (.ex (.call 7 (.cons (.pl (.var 0)) (.cons (.pl (.var 2)) (.cons (.pl (.var 3)) .nil)))))
  (.cons (.asg (.var 4) (.bin .mul (.tm (.lst (.cons (.int 0) .nil))) (.tm (.blt .len (.cons (.pl (.fld (.var 0) 1)) .nil)))))
  (.cons (.asg (.var 5) (.int 0))
  (.cons (.asg (.var 6) (.call 8 (.cons (.pl (.var 0)) (.cons (.pl (.var 1)) (.cons (.pl (.var 4)) (.cons (.pl (.var 2)) .nil))))))
  (.cons (.whl tx_greatest_stream_1
  lx_greatest_stream_4)
  (.cons (.ret (.tup (.cons (.mv 5) (.cons (.mv 4) (.cons (.blt .tuple (.cons (.tm (.blt .sorted (.cons (.pl (.var 6)) .nil))) .nil)) .nil)))))
  .nil)))))))⟩
def c_greatest_stream : Cfg := ⟨fun i => match i with | 6 => m_check_capacities | 7 => m_check_ends | 8 => m_open_ways | 9 => m_way_to | _ => fun _ => .stuck, gl, sub, 100000⟩
@[simp] theorem c_greatest_stream_6 : c_greatest_stream.fn 6 = m_check_capacities := rfl
@[simp] theorem c_greatest_stream_7 : c_greatest_stream.fn 7 = m_check_ends := rfl
@[simp] theorem c_greatest_stream_8 : c_greatest_stream.fn 8 = m_open_ways := rfl
@[simp] theorem c_greatest_stream_9 : c_greatest_stream.fn 9 = m_way_to := rfl
@[simp] theorem c_greatest_stream_sub : c_greatest_stream.sub = sub := rfl
@[simp] theorem c_greatest_stream_fuel : c_greatest_stream.fuel = 100000 := rfl
def m_greatest_stream : Fn := dF c_greatest_stream b_greatest_stream

-- slots: graph=0, lower=1, upper=2, needs=3, start=4, edges=5, capacities=6, vertex=7, value=8, stream=9, side=10, low=11, high=12, need=13, more=14
def cx_circulation_1 : Cs := (.one (.cmp .lt (.pl (.var 7)) (.pl (.fld (.var 0) 0))))
def ex_circulation_2 : E := (.rd (.var 7))
def st_circulation_1 : S := (.ret (.tup (.cons (.str "set") (.cons (.blt .tuple (.cons (.tm (.lc (.lock 10) (.var 7) [7] cx_circulation_1 ex_circulation_2)) .nil)) .nil))))
def cx_circulation_3 : Cs := (.one (.cmp .gt (.pl (.var 13)) (.tm (.int 0))))
def ex_circulation_4 : E := (.rd (.var 13))
def ex_circulation_5 : E := (.bin .add (.pl (.var 11)) (.pl (.var 14)))
def st_circulation_2 : S := (.iff (.cmp .eq (.pl (.var 8)) (.tm (.blt .sum (.cons (.tm (.lc (.lock 3) (.var 13) [13] cx_circulation_3 ex_circulation_4)) .nil))))
  (.cons (.ret (.tup (.cons (.str "flow") (.cons (.lc (.zip (.pl (.var 1)) (.pl (.var 9))) (.tup (.cons (.var 11) (.cons (.var 14) .nil))) [11, 14] .nil ex_circulation_5) .nil))))
  .nil)
  .nil)
def st_circulation_3 : S := (.asg (.tup (.cons (.var 8) (.cons (.var 9) (.cons (.var 10) .nil)))) (.call 10 (.cons (.tm (.make 3 0 true (.cons (.tm (.bin .add (.pl (.fld (.var 0) 0)) (.tm (.int 2)))) (.cons (.pl (.var 5)) .nil)))) (.cons (.pl (.var 6)) (.cons (.pl (.var 4)) (.cons (.tm (.bin .add (.pl (.var 4)) (.tm (.int 1)))) .nil))))))
def lx_circulation_6 : Ss := (.cons (.iff (.cmp .gt (.pl (.ix (.var 3) (.rd (.var 7)))) (.tm (.int 0)))
  (.cons (.ex (.bm .append (.var 5) (.cons (.tup (.cons (.rd (.var 4)) (.cons (.rd (.var 7)) .nil))) .nil)))
  (.cons (.ex (.bm .append (.var 6) (.cons (.rd (.ix (.var 3) (.rd (.var 7)))) .nil)))
  .nil))
  .nil)
  (.cons (.iff (.cmp .lt (.pl (.ix (.var 3) (.rd (.var 7)))) (.tm (.int 0)))
  (.cons (.ex (.bm .append (.var 5) (.cons (.tup (.cons (.rd (.var 7)) (.cons (.bin .add (.pl (.var 4)) (.tm (.int 1))) .nil))) .nil)))
  (.cons (.ex (.bm .append (.var 6) (.cons (.neg (.pl (.ix (.var 3) (.rd (.var 7))))) .nil)))
  .nil))
  .nil)
  .nil))
def st_circulation_4 : S := (.for_ (.rng1 (.pl (.fld (.var 0) 0))) (.var 7)
  lx_circulation_6)
def ex_circulation_7 : E := (.bin .sub (.pl (.var 12)) (.pl (.var 11)))
def st_circulation_5 : S := (.asg (.var 6) (.lc (.zip (.pl (.var 1)) (.pl (.var 2))) (.tup (.cons (.var 11) (.cons (.var 12) .nil))) [11, 12] .nil ex_circulation_7))
def st_circulation_6 : S := (.asg (.var 5) (.blt .list (.cons (.pl (.fld (.var 0) 1)) .nil)))
def st_circulation_7 : S := (.asg (.var 4) (.rd (.fld (.var 0) 0)))
def st_circulation_8 : S := (.asg (.var 3) (.call 5 (.cons (.pl (.var 0)) (.cons (.pl (.var 1)) .nil))))
def st_circulation_9 : S := (.ex (.call 4 (.cons (.pl (.var 0)) (.cons (.pl (.var 1)) (.cons (.pl (.var 2)) .nil)))))
def b_circulation : Df := ⟨15, [true, true, true],
  (.cons st_circulation_9
  (.cons st_circulation_8
  (.cons st_circulation_7
  (.cons st_circulation_6
  (.cons st_circulation_5
  (.cons st_circulation_4
  (.cons st_circulation_3
  (.cons st_circulation_2
  (.cons st_circulation_1
  .nil)))))))))⟩
def c_circulation : Cfg := ⟨fun i => match i with | 4 => m_check_bounds | 5 => m_excess | 10 => m_greatest_stream | 3 => m_Graph___init__ | _ => fun _ => .stuck, gl, sub, 100000⟩
@[simp] theorem c_circulation_4 : c_circulation.fn 4 = m_check_bounds := rfl
@[simp] theorem c_circulation_5 : c_circulation.fn 5 = m_excess := rfl
@[simp] theorem c_circulation_10 : c_circulation.fn 10 = m_greatest_stream := rfl
@[simp] theorem c_circulation_3 : c_circulation.fn 3 = m_Graph___init__ := rfl
@[simp] theorem c_circulation_sub : c_circulation.sub = sub := rfl
@[simp] theorem c_circulation_fuel : c_circulation.fuel = 100000 := rfl
def m_circulation : Fn := dF c_circulation b_circulation

-- slots: graph=0, values=1, side=2, total=3, value=4, first=5, second=6
def lx_in_sum_1 : Ss := (.cons (.iff (.and (.cmp .notin (.pl (.var 5)) (.pl (.var 2))) (.cmp .in_ (.pl (.var 6)) (.pl (.var 2))))
  (.cons (.aug 3 .add (.rd (.var 4)))
  .nil)
  .nil)
  .nil)
def b_in_sum : Df := ⟨7, [true, true, true],
  (.cons (.asg (.var 3) (.int 0))
  (.cons (.for_ (.zip (.pl (.fld (.var 0) 1)) (.pl (.var 1))) (.tup (.cons (.tup (.cons (.var 5) (.cons (.var 6) .nil))) (.cons (.var 4) .nil)))
  lx_in_sum_1)
  (.cons (.ret (.mv 3))
  .nil)))⟩
def c_in_sum : Cfg := ⟨fun i => match i with  | _ => fun _ => .stuck, gl, sub, 100000⟩
@[simp] theorem c_in_sum_sub : c_in_sum.sub = sub := rfl
@[simp] theorem c_in_sum_fuel : c_in_sum.fuel = 100000 := rfl
def m_in_sum : Fn := dF c_in_sum b_in_sum

-- slots: graph=0, values=1, side=2, total=3, value=4, first=5, second=6
def lx_out_sum_1 : Ss := (.cons (.iff (.and (.cmp .in_ (.pl (.var 5)) (.pl (.var 2))) (.cmp .notin (.pl (.var 6)) (.pl (.var 2))))
  (.cons (.aug 3 .add (.rd (.var 4)))
  .nil)
  .nil)
  .nil)
def b_out_sum : Df := ⟨7, [true, true, true],
  (.cons (.asg (.var 3) (.int 0))
  (.cons (.for_ (.zip (.pl (.fld (.var 0) 1)) (.pl (.var 1))) (.tup (.cons (.tup (.cons (.var 5) (.cons (.var 6) .nil))) (.cons (.var 4) .nil)))
  lx_out_sum_1)
  (.cons (.ret (.mv 3))
  .nil)))⟩
def c_out_sum : Cfg := ⟨fun i => match i with  | _ => fun _ => .stuck, gl, sub, 100000⟩
@[simp] theorem c_out_sum_sub : c_out_sum.sub = sub := rfl
@[simp] theorem c_out_sum_fuel : c_out_sum.fuel = 100000 := rfl
def m_out_sum : Fn := dF c_out_sum b_out_sum

-- slots: graph=0, side=1, vertex=2
def ex_is_vertex_set_1 : E := (.chain .le .lt (.tm (.int 0)) (.pl (.var 2)) (.pl (.fld (.var 0) 0)))
def b_is_vertex_set : Df := ⟨3, [true, true],
  (.cons (.iff (.or (.not (.tr (.tm (.blt (.isinst .tuple) (.cons (.pl (.var 1)) .nil))))) (.cmp .ne (.tm (.blt .list (.cons (.pl (.var 1)) .nil))) (.tm (.blt .sortedset (.cons (.pl (.var 1)) .nil)))))
  (.cons (.ret (.bl false))
  .nil)
  .nil)
  (.cons (.ret (.blt .all (.cons (.tm (.lc (.lock 1) (.var 2) [2] .nil ex_is_vertex_set_1)) .nil)))
  .nil))⟩
def c_is_vertex_set : Cfg := ⟨fun i => match i with  | _ => fun _ => .stuck, gl, sub, 100000⟩
@[simp] theorem c_is_vertex_set_sub : c_is_vertex_set.sub = sub := rfl
@[simp] theorem c_is_vertex_set_fuel : c_is_vertex_set.fuel = 100000 := rfl
def m_is_vertex_set : Fn := dF c_is_vertex_set b_is_vertex_set

-- slots: graph=0, lower=1, upper=2, paper=3, word=4, row=5, edge=6, need=7
def cx_judge_circulation_1 : Cs := (.one (.cmp .ne (.pl (.var 7)) (.tm (.int 0))))
def ex_judge_circulation_2 : E := (.rd (.var 7))
def cx_judge_circulation_3 : Cs := (.one (.not (.chain .le .le (.pl (.ix (.var 1) (.rd (.var 6)))) (.pl (.ix (.var 5) (.rd (.var 6)))) (.pl (.ix (.var 2) (.rd (.var 6)))))))
def ex_judge_circulation_4 : E := (.rd (.var 6))
def b_judge_circulation : Df := ⟨8, [true, true, true, true],
  (.cons (.ex (.call 4 (.cons (.pl (.var 0)) (.cons (.pl (.var 1)) (.cons (.pl (.var 2)) .nil)))))
  (.cons (.asg (.tup (.cons (.var 4) (.cons (.var 5) .nil))) (.rd (.var 3)))
  (.cons (.iff (.cmp .eq (.pl (.var 4)) (.tm (.str "flow")))
  (.cons (.iff (.cmp .ne (.tm (.blt .len (.cons (.pl (.var 5)) .nil))) (.tm (.blt .len (.cons (.pl (.fld (.var 0) 1)) .nil))))
  (.cons (.ret (.bl false))
  .nil)
  .nil)
  (.cons (.iff (.tr (.tm (.lc (.rng1 (.tm (.blt .len (.cons (.pl (.var 5)) .nil)))) (.var 6) [6] cx_judge_circulation_3 ex_judge_circulation_4)))
  (.cons (.ret (.bl false))
  .nil)
  .nil)
  (.cons (.ret (.notv (.tm (.lc (.seq (.tm (.call 5 (.cons (.pl (.var 0)) (.cons (.pl (.var 5)) .nil))))) (.var 7) [7] cx_judge_circulation_1 ex_judge_circulation_2))))
  .nil)))
  .nil)
  (.cons (.iff (.or (.cmp .ne (.pl (.var 4)) (.tm (.str "set"))) (.not (.tr (.tm (.call 14 (.cons (.pl (.var 0)) (.cons (.pl (.var 5)) .nil)))))))
  (.cons (.ret (.bl false))
  .nil)
  .nil)
  (.cons (.ret (.cmp .gt (.tm (.call 12 (.cons (.pl (.var 0)) (.cons (.pl (.var 1)) (.cons (.pl (.var 5)) .nil))))) (.tm (.call 13 (.cons (.pl (.var 0)) (.cons (.pl (.var 2)) (.cons (.pl (.var 5)) .nil)))))))
  .nil)))))⟩
def c_judge_circulation : Cfg := ⟨fun i => match i with | 4 => m_check_bounds | 12 => m_in_sum | 13 => m_out_sum | 14 => m_is_vertex_set | 5 => m_excess | _ => fun _ => .stuck, gl, sub, 100000⟩
@[simp] theorem c_judge_circulation_4 : c_judge_circulation.fn 4 = m_check_bounds := rfl
@[simp] theorem c_judge_circulation_12 : c_judge_circulation.fn 12 = m_in_sum := rfl
@[simp] theorem c_judge_circulation_13 : c_judge_circulation.fn 13 = m_out_sum := rfl
@[simp] theorem c_judge_circulation_14 : c_judge_circulation.fn 14 = m_is_vertex_set := rfl
@[simp] theorem c_judge_circulation_5 : c_judge_circulation.fn 5 = m_excess := rfl
@[simp] theorem c_judge_circulation_sub : c_judge_circulation.sub = sub := rfl
@[simp] theorem c_judge_circulation_fuel : c_judge_circulation.fuel = 100000 := rfl
def m_judge_circulation : Fn := dF c_judge_circulation b_judge_circulation

-- slots: ask=0, graph=1, lower=2, upper=3, error=4
def b_l_law_refusal : Df := ⟨5, [true, true, true, true],
  (.cons (.try_ (.cons (.iff (.cmp .eq (.pl (.var 0)) (.tm (.int 0)))
  (.cons (.ex (.call 11 (.cons (.pl (.var 1)) (.cons (.pl (.var 2)) (.cons (.pl (.var 3)) .nil)))))
  .nil)
  (.cons (.ex (.call 15 (.cons (.pl (.var 1)) (.cons (.pl (.var 2)) (.cons (.pl (.var 3)) (.cons (.tm (.tup (.cons (.str "set") (.cons (.tup .nil) .nil)))) .nil))))))
  .nil))
  .nil)
  (.cons 2 (some 4)
  (.ret .what)
  .nil))
  (.cons (.ret .non)
  .nil))⟩
def c_l_law_refusal : Cfg := ⟨fun i => match i with | 11 => m_circulation | 15 => m_judge_circulation | _ => fun _ => .stuck, gl, sub, 100000⟩
@[simp] theorem c_l_law_refusal_11 : c_l_law_refusal.fn 11 = m_circulation := rfl
@[simp] theorem c_l_law_refusal_15 : c_l_law_refusal.fn 15 = m_judge_circulation := rfl
@[simp] theorem c_l_law_refusal_sub : c_l_law_refusal.sub = sub := rfl
@[simp] theorem c_l_law_refusal_fuel : c_l_law_refusal.fuel = 100000 := rfl
def m_l_law_refusal : Fn := dF c_l_law_refusal b_l_law_refusal

-- slots: size=0, found=1, item=2, row=3
def ex_l_law_subsets_1 : E := (.bin .add (.pl (.var 3)) (.tm (.tup (.cons (.rd (.var 2)) .nil))))
def lx_l_law_subsets_2 : Ss := (.cons (.asg (.var 1) (.bin .add (.pl (.var 1)) (.tm (.lc (.lock 1) (.var 3) [3] .nil ex_l_law_subsets_1))))
  .nil)
def b_l_law_subsets : Df := ⟨4, [true],
  (.cons (.asg (.var 1) (.lst (.cons (.tup .nil) .nil)))
  (.cons (.for_ (.rng1 (.pl (.var 0))) (.var 2)
  lx_l_law_subsets_2)
  (.cons (.ret (.mv 1))
  .nil)))⟩
def c_l_law_subsets : Cfg := ⟨fun i => match i with  | _ => fun _ => .stuck, gl, sub, 100000⟩
@[simp] theorem c_l_law_subsets_sub : c_l_law_subsets.sub = sub := rfl
@[simp] theorem c_l_law_subsets_fuel : c_l_law_subsets.fuel = 100000 := rfl
def m_l_law_subsets : Fn := dF c_l_law_subsets b_l_law_subsets

-- slots: edges=0, lower=1, upper=2, side=3, least=4, most=5, at=6, first=7, second=8
def lx_l_law_set_right_1 : Ss := (.cons (.asg (.tup (.cons (.var 7) (.cons (.var 8) .nil))) (.rd (.ix (.var 0) (.rd (.var 6)))))
  (.cons (.iff (.and (.cmp .notin (.pl (.var 7)) (.pl (.var 3))) (.cmp .in_ (.pl (.var 8)) (.pl (.var 3))))
  (.cons (.asg (.var 4) (.bin .add (.pl (.var 4)) (.pl (.ix (.var 1) (.rd (.var 6))))))
  .nil)
  .nil)
  (.cons (.iff (.and (.cmp .in_ (.pl (.var 7)) (.pl (.var 3))) (.cmp .notin (.pl (.var 8)) (.pl (.var 3))))
  (.cons (.asg (.var 5) (.bin .add (.pl (.var 5)) (.pl (.ix (.var 2) (.rd (.var 6))))))
  .nil)
  .nil)
  .nil)))
def b_l_law_set_right : Df := ⟨9, [true, true, true, true],
  (.cons (.asg (.var 4) (.int 0))
  (.cons (.asg (.var 5) (.int 0))
  (.cons (.for_ (.rng1 (.tm (.blt .len (.cons (.pl (.var 0)) .nil)))) (.var 6)
  lx_l_law_set_right_1)
  (.cons (.ret (.cmp .gt (.pl (.var 4)) (.pl (.var 5))))
  .nil))))⟩
def c_l_law_set_right : Cfg := ⟨fun i => match i with  | _ => fun _ => .stuck, gl, sub, 100000⟩
@[simp] theorem c_l_law_set_right_sub : c_l_law_set_right.sub = sub := rfl
@[simp] theorem c_l_law_set_right_fuel : c_l_law_set_right.fuel = 100000 := rfl
def m_l_law_set_right : Fn := dF c_l_law_set_right b_l_law_set_right

-- slots: vertices=0, edges=1, row=2, totals=3, item=4, first=5, second=6
def lx_l_law_balanced_1 : Ss := (.cons (.six (.var 3) (.rd (.var 5)) (.bin .sub (.pl (.ix (.var 3) (.rd (.var 5)))) (.pl (.var 4))))
  (.cons (.six (.var 3) (.rd (.var 6)) (.bin .add (.pl (.ix (.var 3) (.rd (.var 6)))) (.pl (.var 4))))
  .nil))
def b_l_law_balanced : Df := ⟨7, [true, true, true],
  (.cons (.asg (.var 3) (.bin .mul (.tm (.lst (.cons (.int 0) .nil))) (.pl (.var 0))))
  (.cons (.for_ (.zip (.pl (.var 1)) (.pl (.var 2))) (.tup (.cons (.tup (.cons (.var 5) (.cons (.var 6) .nil))) (.cons (.var 4) .nil)))
  lx_l_law_balanced_1)
  (.cons (.ret (.cmp .eq (.pl (.var 3)) (.tm (.bin .mul (.tm (.lst (.cons (.int 0) .nil))) (.pl (.var 0))))))
  .nil)))⟩
def c_l_law_balanced : Cfg := ⟨fun i => match i with  | _ => fun _ => .stuck, gl, sub, 100000⟩
@[simp] theorem c_l_law_balanced_sub : c_l_law_balanced.sub = sub := rfl
@[simp] theorem c_l_law_balanced_fuel : c_l_law_balanced.fuel = 100000 := rfl
def m_l_law_balanced : Fn := dF c_l_law_balanced b_l_law_balanced

-- slots: vertices=0, edges=1, lower=2, upper=3, row=4, at=5
def cx_l_law_flow_right_1 : Cs := (.one (.not (.chain .le .le (.pl (.ix (.var 2) (.rd (.var 5)))) (.pl (.ix (.var 4) (.rd (.var 5)))) (.pl (.ix (.var 3) (.rd (.var 5)))))))
def ex_l_law_flow_right_2 : E := (.rd (.var 5))
def b_l_law_flow_right : Df := ⟨6, [true, true, true, true, true],
  (.cons (.iff (.or (.cmp .ne (.tm (.blt .len (.cons (.pl (.var 4)) .nil))) (.tm (.blt .len (.cons (.pl (.var 1)) .nil)))) (.not (.tr (.tm (.call 19 (.cons (.pl (.var 0)) (.cons (.pl (.var 1)) (.cons (.pl (.var 4)) .nil))))))))
  (.cons (.ret (.bl false))
  .nil)
  .nil)
  (.cons (.ret (.cmp .eq (.tm (.blt .len (.cons (.tm (.lc (.rng1 (.tm (.blt .len (.cons (.pl (.var 4)) .nil)))) (.var 5) [5] cx_l_law_flow_right_1 ex_l_law_flow_right_2)) .nil))) (.tm (.int 0))))
  .nil))⟩
def c_l_law_flow_right : Cfg := ⟨fun i => match i with | 19 => m_l_law_balanced | _ => fun _ => .stuck, gl, sub, 100000⟩
@[simp] theorem c_l_law_flow_right_19 : c_l_law_flow_right.fn 19 = m_l_law_balanced := rfl
@[simp] theorem c_l_law_flow_right_sub : c_l_law_flow_right.sub = sub := rfl
@[simp] theorem c_l_law_flow_right_fuel : c_l_law_flow_right.fuel = 100000 := rfl
def m_l_law_flow_right : Fn := dF c_l_law_flow_right b_l_law_flow_right

-- slots: value=0, item=1
def ex_l_law_plain_1 : E := (.call 21 (.cons (.pl (.var 1)) .nil))
def b_l_law_plain : Df := ⟨2, [true],
  (.cons (.iff (.tr (.tm (.blt (.isinst2 .tuple .list) (.cons (.pl (.var 0)) .nil))))
  (.cons (.ret (.bin .add (.tm (.lst (.cons (.blt (.isinst .list) (.cons (.pl (.var 0)) .nil)) .nil))) (.tm (.lc (.lock 0) (.var 1) [1] .nil ex_l_law_plain_1))))
  .nil)
  .nil)
  (.cons (.iff (.or (.cmp .is_ (.pl (.var 0)) (.tm .non)) (.tr (.tm (.blt (.isinst .bool) (.cons (.pl (.var 0)) .nil)))))
  (.cons (.ret (.sub (.tm (.lst (.cons (.str "None") (.cons (.str "False") (.cons (.str "True") .nil))))) (.tm (.bin .add (.tm (.blt .int (.cons (.tm (.cmp .isnot (.pl (.var 0)) (.tm .non))) .nil))) (.tm (.blt .int (.cons (.tm (.cmp .is_ (.pl (.var 0)) (.tm (.bl true)))) .nil)))))))
  .nil)
  .nil)
  (.cons (.iff (.tr (.tm (.blt (.isinst2 .int .str) (.cons (.pl (.var 0)) .nil))))
  (.cons (.ret (.lst (.cons (.blt (.isinst .str) (.cons (.pl (.var 0)) .nil)) (.cons (.rd (.var 0)) .nil))))
  .nil)
  .nil)
  (.cons (.ret (.str "another"))
  .nil))))⟩
def c_l_law_plain (self : Fn) : Cfg := ⟨fun i => match i with  | 21 => self | _ => fun _ => .stuck, gl, sub, 100000⟩
@[simp] theorem c_l_law_plain_21 (self : Fn) : (c_l_law_plain self).fn 21 = self := rfl
@[simp] theorem c_l_law_plain_fuel (self : Fn) : (c_l_law_plain self).fuel = 100000 := rfl
def r_l_law_plain : Nat → Fn
  | 0 => fun _ => .stuck
  | n + 1 => dF (c_l_law_plain (r_l_law_plain n)) b_l_law_plain
def m_l_law_plain : Fn := r_l_law_plain 60

-- slots: deck=0, graph=1, edges=2, lower=3, upper=4, vertices=5, side=6, row=7, due=8, at=9
def st_l_law_judged_right_1 : S := (.ret (.cmp .is_ (.tm (.call 15 (.cons (.pl (.var 1)) (.cons (.pl (.var 3)) (.cons (.pl (.var 4)) (.cons (.tm (.tup (.cons (.str "way") (.cons (.rd (.var 7)) .nil)))) .nil)))))) (.tm (.bl false))))
def st_l_law_judged_right_2 : S := (.iff (.cmp .isnot (.tm (.call 15 (.cons (.pl (.var 1)) (.cons (.pl (.var 3)) (.cons (.pl (.var 4)) (.cons (.tm (.tup (.cons (.str "flow") (.cons (.bin .add (.pl (.var 7)) (.tm (.lst (.cons (.int 0) .nil)))) .nil)))) .nil)))))) (.tm (.bl false)))
  (.cons (.ret (.bl false))
  .nil)
  .nil)
def st_l_law_judged_right_3 : S := (.iff (.cmp .ne (.tm (.call 21 (.cons (.tm (.call 15 (.cons (.pl (.var 1)) (.cons (.pl (.var 3)) (.cons (.pl (.var 4)) (.cons (.tm (.tup (.cons (.str "flow") (.cons (.rd (.var 7)) .nil)))) .nil)))))) .nil))) (.tm (.call 21 (.cons (.pl (.var 8)) .nil))))
  (.cons (.ret (.bl false))
  .nil)
  .nil)
def st_l_law_judged_right_4 : S := (.asg (.var 8) (.call 20 (.cons (.pl (.var 5)) (.cons (.pl (.var 2)) (.cons (.pl (.var 3)) (.cons (.pl (.var 4)) (.cons (.pl (.var 7)) .nil)))))))
def ex_l_law_judged_right_1 : E := (.bin .add (.pl (.ix (.var 3) (.rd (.var 9)))) (.tm (.call 1 (.cons (.pl (.var 0)) (.cons (.tm (.bin .add (.tm (.bin .sub (.pl (.ix (.var 4) (.rd (.var 9)))) (.pl (.ix (.var 3) (.rd (.var 9)))))) (.tm (.int 2)))) .nil)))))
def st_l_law_judged_right_5 : S := (.asg (.var 7) (.lc (.rng1 (.tm (.blt .len (.cons (.pl (.var 2)) .nil)))) (.var 9) [9] .nil ex_l_law_judged_right_1))
def st_l_law_judged_right_6 : S := (.iff (.cmp .ne (.tm (.call 21 (.cons (.tm (.call 15 (.cons (.pl (.var 1)) (.cons (.pl (.var 3)) (.cons (.pl (.var 4)) (.cons (.tm (.tup (.cons (.str "set") (.cons (.rd (.var 6)) .nil)))) .nil)))))) .nil))) (.tm (.call 21 (.cons (.pl (.var 8)) .nil))))
  (.cons (.ret (.bl false))
  .nil)
  .nil)
def st_l_law_judged_right_7 : S := (.asg (.var 8) (.call 18 (.cons (.pl (.var 2)) (.cons (.pl (.var 3)) (.cons (.pl (.var 4)) (.cons (.pl (.var 6)) .nil))))))
def lx_l_law_judged_right_2 : Ss := (.cons st_l_law_judged_right_7
  (.cons st_l_law_judged_right_6
  .nil))
def st_l_law_judged_right_8 : S := (.for_ (.seq (.tm (.call 17 (.cons (.pl (.var 5)) .nil)))) (.var 6)
  lx_l_law_judged_right_2)
def st_l_law_judged_right_9 : S := (.asg (.var 5) (.rd (.fld (.var 1) 0)))
def b_l_law_judged_right : Df := ⟨10, [true, true, true, true, true],
  (.cons st_l_law_judged_right_9
  (.cons st_l_law_judged_right_8
  (.cons st_l_law_judged_right_5
  (.cons st_l_law_judged_right_4
  (.cons st_l_law_judged_right_3
  (.cons st_l_law_judged_right_2
  (.cons st_l_law_judged_right_1
  .nil)))))))⟩
def c_l_law_judged_right : Cfg := ⟨fun i => match i with | 17 => m_l_law_subsets | 20 => m_l_law_flow_right | 18 => m_l_law_set_right | 21 => m_l_law_plain | 15 => m_judge_circulation | 1 => m_l_law_take | _ => fun _ => .stuck, gl, sub, 100000⟩
@[simp] theorem c_l_law_judged_right_17 : c_l_law_judged_right.fn 17 = m_l_law_subsets := rfl
@[simp] theorem c_l_law_judged_right_20 : c_l_law_judged_right.fn 20 = m_l_law_flow_right := rfl
@[simp] theorem c_l_law_judged_right_18 : c_l_law_judged_right.fn 18 = m_l_law_set_right := rfl
@[simp] theorem c_l_law_judged_right_21 : c_l_law_judged_right.fn 21 = m_l_law_plain := rfl
@[simp] theorem c_l_law_judged_right_15 : c_l_law_judged_right.fn 15 = m_judge_circulation := rfl
@[simp] theorem c_l_law_judged_right_1 : c_l_law_judged_right.fn 1 = m_l_law_take := rfl
@[simp] theorem c_l_law_judged_right_sub : c_l_law_judged_right.sub = sub := rfl
@[simp] theorem c_l_law_judged_right_fuel : c_l_law_judged_right.fuel = 100000 := rfl
def m_l_law_judged_right : Fn := dF c_l_law_judged_right b_l_law_judged_right

-- slots: script=0, deck=1, vertices=2, edges=3, graph=4, scale=5, lower=6, upper=7, sides=8, told=9, ask=10, edge=11, low=12, side=13, item=14
def st_law_1 : S := (.ret (.cmp .eq (.pl (.var 9)) (.tm (.lst (.cons (.str "bounds") (.cons (.str "bounds") .nil))))))
def st_law_2 : S := (.asg (.var 9) (.lst (.cons (.call 16 (.cons (.pl (.var 10)) (.cons (.pl (.var 4)) (.cons (.tm (.bin .add (.pl (.var 6)) (.tm (.lst (.cons (.int 0) .nil))))) (.cons (.pl (.var 7)) .nil))))) (.cons (.call 16 (.cons (.pl (.var 10)) (.cons (.tm (.make 3 0 true (.cons (.tm (.int 1)) (.cons (.tm (.lst (.cons (.tup (.cons (.int 0) (.cons (.int 0) .nil))) .nil))) .nil)))) (.cons (.tm (.lst (.cons (.int 1) .nil))) (.cons (.tm (.lst (.cons (.int 0) .nil))) .nil))))) .nil))))
def st_law_3 : S := (.asg (.var 10) (.call 1 (.cons (.pl (.var 1)) (.cons (.tm (.int 2)) .nil))))
def st_law_4 : S := (.iff (.and (.cmp .eq (.pl (.var 5)) (.tm (.int 1))) (.not (.tr (.tm (.call 22 (.cons (.pl (.var 1)) (.cons (.pl (.var 4)) (.cons (.pl (.var 3)) (.cons (.pl (.var 6)) (.cons (.pl (.var 7)) .nil))))))))))
  (.cons (.ret (.bl false))
  .nil)
  .nil)
def st_law_5 : S := (.iff (.cmp .isnot (.tm (.call 15 (.cons (.pl (.var 4)) (.cons (.pl (.var 6)) (.cons (.pl (.var 7)) (.cons (.pl (.var 9)) .nil)))))) (.tm (.bl true)))
  (.cons (.ret (.bl false))
  .nil)
  .nil)
def cx_law_1 : Cs := (.one (.not (.tr (.tm (.blt (.isinst .int) (.cons (.pl (.var 14)) .nil))))))
def ex_law_2 : E := (.rd (.var 14))
def st_law_6 : S := (.iff (.cmp .eq (.pl (.ix (.var 9) (.int 0))) (.tm (.str "flow")))
  (.cons (.iff (.or (.not (.tr (.tm (.blt (.isinst .list) (.cons (.pl (.ix (.var 9) (.int 1))) .nil))))) (.not (.tr (.tm (.call 20 (.cons (.pl (.var 2)) (.cons (.pl (.var 3)) (.cons (.pl (.var 6)) (.cons (.pl (.var 7)) (.cons (.pl (.ix (.var 9) (.int 1))) .nil))))))))))
  (.cons (.ret (.bl false))
  .nil)
  .nil)
  (.cons (.iff (.cmp .gt (.tm (.blt .len (.cons (.tm (.lc (.seq (.pl (.ix (.var 9) (.int 1)))) (.var 14) [14] cx_law_1 ex_law_2)) .nil))) (.tm (.int 0)))
  (.cons (.ret (.bl false))
  .nil)
  .nil)
  .nil))
  (.cons (.iff (.or (.cmp .ne (.pl (.ix (.var 9) (.int 0))) (.tm (.str "set"))) (.cmp .notin (.pl (.ix (.var 9) (.int 1))) (.pl (.var 8))))
  (.cons (.ret (.bl false))
  .nil)
  .nil)
  .nil))
def st_law_7 : S := (.iff (.or (.not (.tr (.tm (.blt (.isinst .tuple) (.cons (.pl (.var 9)) .nil))))) (.or (.cmp .ne (.tm (.blt .len (.cons (.pl (.var 9)) .nil))) (.tm (.int 2))) (.cmp .ne (.tm (.cmp .eq (.pl (.ix (.var 9) (.int 0))) (.tm (.str "flow")))) (.tm (.cmp .eq (.tm (.blt .len (.cons (.pl (.var 8)) .nil))) (.tm (.int 0)))))))
  (.cons (.ret (.bl false))
  .nil)
  .nil)
def st_law_8 : S := (.asg (.var 9) (.frz (.call 11 (.cons (.pl (.var 4)) (.cons (.tm (.blt .list (.cons (.pl (.var 6)) .nil))) (.cons (.tm (.blt .tuple (.cons (.pl (.var 7)) .nil))) .nil))))))
def cx_law_3 : Cs := (.one (.tr (.tm (.call 18 (.cons (.pl (.var 3)) (.cons (.pl (.var 6)) (.cons (.pl (.var 7)) (.cons (.pl (.var 13)) .nil))))))))
def ex_law_4 : E := (.rd (.var 13))
def st_law_9 : S := (.asg (.var 8) (.lc (.seq (.tm (.call 17 (.cons (.pl (.var 2)) .nil)))) (.var 13) [13] cx_law_3 ex_law_4))
def ex_law_5 : E := (.bin .add (.pl (.var 12)) (.tm (.bin .mul (.tm (.call 1 (.cons (.pl (.var 1)) (.cons (.tm (.int 6)) .nil)))) (.pl (.var 5)))))
def st_law_10 : S := (.asg (.var 7) (.lc (.lock 6) (.var 12) [12] .nil ex_law_5))
def ex_law_6 : E := (.bin .mul (.tm (.bin .sub (.tm (.call 1 (.cons (.pl (.var 1)) (.cons (.tm (.int 9)) .nil)))) (.tm (.int 4)))) (.pl (.var 5)))
def st_law_11 : S := (.asg (.var 6) (.lc (.lock 3) (.var 11) [11] .nil ex_law_6))
def st_law_12 : S := (.asg (.var 5) (.sub (.tm (.lst (.cons (.int 1) (.cons (.int 1) (.cons (.int 1) (.cons (.int 1000000000000) .nil)))))) (.tm (.call 1 (.cons (.pl (.var 1)) (.cons (.tm (.int 4)) .nil))))))
def st_law_13 : S := (.asg (.var 4) (.make 3 0 true (.cons (.pl (.var 2)) (.cons (.tm (.blt .list (.cons (.pl (.var 3)) .nil))) .nil))))
def st_law_14 : S := (.asg (.var 3) (.call 2 (.cons (.pl (.var 1)) (.cons (.pl (.var 2)) (.cons (.tm (.int 7)) .nil)))))
def st_law_15 : S := (.asg (.var 2) (.bin .add (.tm (.int 1)) (.tm (.call 1 (.cons (.pl (.var 1)) (.cons (.tm (.int 5)) .nil))))))
def st_law_16 : S := (.asg (.var 1) (.call 0 (.cons (.pl (.var 0)) (.cons (.tm (.int 40)) (.cons (.tm (.int 14)) .nil)))))
def b_law : Df := ⟨15, [true],
  (.cons st_law_16
  (.cons st_law_15
  (.cons st_law_14
  (.cons st_law_13
  (.cons st_law_12
  (.cons st_law_11
  (.cons st_law_10
  (.cons st_law_9
  (.cons st_law_8
  (.cons st_law_7
  (.cons st_law_6
  (.cons st_law_5
  (.cons st_law_4
  (.cons st_law_3
  (.cons st_law_2
  (.cons st_law_1
  .nil))))))))))))))))⟩
def c_law : Cfg := ⟨fun i => match i with | 0 => m_l_law_deck | 2 => m_l_law_edges | 3 => m_Graph___init__ | 11 => m_circulation | 1 => m_l_law_take | 15 => m_judge_circulation | 16 => m_l_law_refusal | 17 => m_l_law_subsets | 18 => m_l_law_set_right | 22 => m_l_law_judged_right | 20 => m_l_law_flow_right | _ => fun _ => .stuck, gl, sub, 100000⟩
@[simp] theorem c_law_0 : c_law.fn 0 = m_l_law_deck := rfl
@[simp] theorem c_law_2 : c_law.fn 2 = m_l_law_edges := rfl
@[simp] theorem c_law_3 : c_law.fn 3 = m_Graph___init__ := rfl
@[simp] theorem c_law_11 : c_law.fn 11 = m_circulation := rfl
@[simp] theorem c_law_1 : c_law.fn 1 = m_l_law_take := rfl
@[simp] theorem c_law_15 : c_law.fn 15 = m_judge_circulation := rfl
@[simp] theorem c_law_16 : c_law.fn 16 = m_l_law_refusal := rfl
@[simp] theorem c_law_17 : c_law.fn 17 = m_l_law_subsets := rfl
@[simp] theorem c_law_18 : c_law.fn 18 = m_l_law_set_right := rfl
@[simp] theorem c_law_22 : c_law.fn 22 = m_l_law_judged_right := rfl
@[simp] theorem c_law_20 : c_law.fn 20 = m_l_law_flow_right := rfl
@[simp] theorem c_law_sub : c_law.sub = sub := rfl
@[simp] theorem c_law_fuel : c_law.fuel = 100000 := rfl
def m_law : Fn := dF c_law b_law

-- slots: k=0
def b_l_wall : Df := ⟨1, [true],
  (.cons .never
  .nil)⟩
def c_l_wall : Cfg := ⟨fun i => match i with  | _ => fun _ => .stuck, gl, sub, 100000⟩
@[simp] theorem c_l_wall_sub : c_l_wall.sub = sub := rfl
@[simp] theorem c_l_wall_fuel : c_l_wall.fuel = 100000 := rfl
def m_l_wall : Fn := dF c_l_wall b_l_wall

-- slots: self=0, edge=1
def b_Graph_check_edge : Df := ⟨2, [true, true],
  (.cons (.ex (.call 24 (.cons (.tm (.int 0)) .nil)))
  .nil)⟩
def c_Graph_check_edge : Cfg := ⟨fun i => match i with | 24 => m_l_wall | _ => fun _ => .stuck, gl, sub, 100000⟩
@[simp] theorem c_Graph_check_edge_24 : c_Graph_check_edge.fn 24 = m_l_wall := rfl
@[simp] theorem c_Graph_check_edge_sub : c_Graph_check_edge.sub = sub := rfl
@[simp] theorem c_Graph_check_edge_fuel : c_Graph_check_edge.fuel = 100000 := rfl
def m_Graph_check_edge : Fn := dF c_Graph_check_edge b_Graph_check_edge

-- slots: self=0, vertex=1
def b_Graph_degree : Df := ⟨2, [true, true],
  (.cons (.ex (.call 24 (.cons (.tm (.int 1)) .nil)))
  .nil)⟩
def c_Graph_degree : Cfg := ⟨fun i => match i with | 24 => m_l_wall | _ => fun _ => .stuck, gl, sub, 100000⟩
@[simp] theorem c_Graph_degree_24 : c_Graph_degree.fn 24 = m_l_wall := rfl
@[simp] theorem c_Graph_degree_sub : c_Graph_degree.sub = sub := rfl
@[simp] theorem c_Graph_degree_fuel : c_Graph_degree.fuel = 100000 := rfl
def m_Graph_degree : Fn := dF c_Graph_degree b_Graph_degree

-- slots: self=0
def b_Graph_components : Df := ⟨1, [true],
  (.cons (.ex (.call 24 (.cons (.tm (.int 2)) .nil)))
  .nil)⟩
def c_Graph_components : Cfg := ⟨fun i => match i with | 24 => m_l_wall | _ => fun _ => .stuck, gl, sub, 100000⟩
@[simp] theorem c_Graph_components_24 : c_Graph_components.fn 24 = m_l_wall := rfl
@[simp] theorem c_Graph_components_sub : c_Graph_components.sub = sub := rfl
@[simp] theorem c_Graph_components_fuel : c_Graph_components.fuel = 100000 := rfl
def m_Graph_components : Fn := dF c_Graph_components b_Graph_components

-- slots: self=0
def b_Graph_is_connected : Df := ⟨1, [true],
  (.cons (.ex (.call 24 (.cons (.tm (.int 3)) .nil)))
  .nil)⟩
def c_Graph_is_connected : Cfg := ⟨fun i => match i with | 24 => m_l_wall | _ => fun _ => .stuck, gl, sub, 100000⟩
@[simp] theorem c_Graph_is_connected_24 : c_Graph_is_connected.fn 24 = m_l_wall := rfl
@[simp] theorem c_Graph_is_connected_sub : c_Graph_is_connected.sub = sub := rfl
@[simp] theorem c_Graph_is_connected_fuel : c_Graph_is_connected.fuel = 100000 := rfl
def m_Graph_is_connected : Fn := dF c_Graph_is_connected b_Graph_is_connected

-- slots: self=0, edges=1
def b_Graph_rank_of : Df := ⟨2, [true, true],
  (.cons (.ex (.call 24 (.cons (.tm (.int 4)) .nil)))
  .nil)⟩
def c_Graph_rank_of : Cfg := ⟨fun i => match i with | 24 => m_l_wall | _ => fun _ => .stuck, gl, sub, 100000⟩
@[simp] theorem c_Graph_rank_of_24 : c_Graph_rank_of.fn 24 = m_l_wall := rfl
@[simp] theorem c_Graph_rank_of_sub : c_Graph_rank_of.sub = sub := rfl
@[simp] theorem c_Graph_rank_of_fuel : c_Graph_rank_of.fuel = 100000 := rfl
def m_Graph_rank_of : Fn := dF c_Graph_rank_of b_Graph_rank_of

-- slots: self=0, edge=1
def b_Graph_deleted : Df := ⟨2, [true, true],
  (.cons (.ex (.call 24 (.cons (.tm (.int 5)) .nil)))
  .nil)⟩
def c_Graph_deleted : Cfg := ⟨fun i => match i with | 24 => m_l_wall | _ => fun _ => .stuck, gl, sub, 100000⟩
@[simp] theorem c_Graph_deleted_24 : c_Graph_deleted.fn 24 = m_l_wall := rfl
@[simp] theorem c_Graph_deleted_sub : c_Graph_deleted.sub = sub := rfl
@[simp] theorem c_Graph_deleted_fuel : c_Graph_deleted.fuel = 100000 := rfl
def m_Graph_deleted : Fn := dF c_Graph_deleted b_Graph_deleted

-- slots: self=0, edge=1
def b_Graph_contracted : Df := ⟨2, [true, true],
  (.cons (.ex (.call 24 (.cons (.tm (.int 6)) .nil)))
  .nil)⟩
def c_Graph_contracted : Cfg := ⟨fun i => match i with | 24 => m_l_wall | _ => fun _ => .stuck, gl, sub, 100000⟩
@[simp] theorem c_Graph_contracted_24 : c_Graph_contracted.fn 24 = m_l_wall := rfl
@[simp] theorem c_Graph_contracted_sub : c_Graph_contracted.sub = sub := rfl
@[simp] theorem c_Graph_contracted_fuel : c_Graph_contracted.fuel = 100000 := rfl
def m_Graph_contracted : Fn := dF c_Graph_contracted b_Graph_contracted

-- slots: self=0, edge=1
def b_Graph_reversed_edge : Df := ⟨2, [true, true],
  (.cons (.ex (.call 24 (.cons (.tm (.int 7)) .nil)))
  .nil)⟩
def c_Graph_reversed_edge : Cfg := ⟨fun i => match i with | 24 => m_l_wall | _ => fun _ => .stuck, gl, sub, 100000⟩
@[simp] theorem c_Graph_reversed_edge_24 : c_Graph_reversed_edge.fn 24 = m_l_wall := rfl
@[simp] theorem c_Graph_reversed_edge_sub : c_Graph_reversed_edge.sub = sub := rfl
@[simp] theorem c_Graph_reversed_edge_fuel : c_Graph_reversed_edge.fuel = 100000 := rfl
def m_Graph_reversed_edge : Fn := dF c_Graph_reversed_edge b_Graph_reversed_edge

end k87
namespace k87a
open PySem PySem.Spec PyProof.Rows L2 He Mp k87
def top (i : Nat) : Stmt := PySem.Challenge.pw_treework_k87_whole_circulations.main.body.getD i (.Pass ⟨0, 0, 0, 0⟩)
def flds : List Str := ["vertices", "edges"]
def exns : List (Nat × Str) := [(0, "TreeError"), (1, "InvalidGraph"), (2, "InvalidSet")]
def exrs : List (Nat × Str) := [(1, "InvalidGraph"), (2, "InvalidSet")]
def nm : Nm := ⟨["_law_deck", "_law_take", "_law_edges", "check_bounds", "excess", "check_capacities", "check_ends", "open_ways", "way_to", "greatest_stream", "circulation", "in_sum", "out_sum", "is_vertex_set", "judge_circulation", "_law_refusal", "_law_subsets", "_law_set_right", "_law_balanced", "_law_flow_right", "_law_plain", "_law_judged_right", "law", "_wall", "Graph", "TreeError", "InvalidGraph", "InvalidSet"], ["Graph"], flds, ["TreeError", "InvalidGraph", "InvalidSet"], "what", sub⟩
theorem hnd : nm.fls.Nodup := by decide +kernel
def dOf (st : Stmt) (n q : Str) (at_ : Str × Option Str) : DefD := ⟨at_, n, q, defArgs st, defBody st, defScope st, [], []⟩
def d_l_law_deck : DefD := dOf (top 21) "_law_deck" "_law_deck" ("_law_deck", none)
def d_l_law_take : DefD := dOf (top 22) "_law_take" "_law_take" ("_law_take", none)
def d_l_law_edges : DefD := dOf (top 24) "_law_edges" "_law_edges" ("_law_edges", none)
def d_Graph___init__ : DefD := dOf (inClass (top 6) 0) "__init__" "Graph.__init__" ("Graph", some "__init__")
def d_check_bounds : DefD := dOf (top 17) "check_bounds" "check_bounds" ("check_bounds", none)
def d_excess : DefD := dOf (top 13) "excess" "excess" ("excess", none)
def d_check_capacities : DefD := dOf (top 8) "check_capacities" "check_capacities" ("check_capacities", none)
def d_check_ends : DefD := dOf (top 9) "check_ends" "check_ends" ("check_ends", none)
def d_open_ways : DefD := dOf (top 10) "open_ways" "open_ways" ("open_ways", none)
def d_way_to : DefD := dOf (top 11) "way_to" "way_to" ("way_to", none)
def d_greatest_stream : DefD := dOf (top 12) "greatest_stream" "greatest_stream" ("greatest_stream", none)
def d_circulation : DefD := dOf (top 18) "circulation" "circulation" ("circulation", none)
def d_in_sum : DefD := dOf (top 15) "in_sum" "in_sum" ("in_sum", none)
def d_out_sum : DefD := dOf (top 14) "out_sum" "out_sum" ("out_sum", none)
def d_is_vertex_set : DefD := dOf (top 16) "is_vertex_set" "is_vertex_set" ("is_vertex_set", none)
def d_judge_circulation : DefD := dOf (top 19) "judge_circulation" "judge_circulation" ("judge_circulation", none)
def d_l_law_refusal : DefD := dOf (top 29) "_law_refusal" "_law_refusal" ("_law_refusal", none)
def d_l_law_subsets : DefD := dOf (top 25) "_law_subsets" "_law_subsets" ("_law_subsets", none)
def d_l_law_set_right : DefD := dOf (top 28) "_law_set_right" "_law_set_right" ("_law_set_right", none)
def d_l_law_balanced : DefD := dOf (top 26) "_law_balanced" "_law_balanced" ("_law_balanced", none)
def d_l_law_flow_right : DefD := dOf (top 27) "_law_flow_right" "_law_flow_right" ("_law_flow_right", none)
def d_l_law_plain : DefD := dOf (top 23) "_law_plain" "_law_plain" ("_law_plain", none)
def d_l_law_judged_right : DefD := dOf (top 30) "_law_judged_right" "_law_judged_right" ("_law_judged_right", none)
def d_law : DefD := dOf (top 31) "law" "law" ("law", none)
def d_l_wall : DefD := dOf (top 0) "_wall" "_wall" ("_wall", none)
def d_Graph_check_edge : DefD := dOf (inClass (top 6) 1) "check_edge" "Graph.check_edge" ("Graph", some "check_edge")
def d_Graph_degree : DefD := dOf (inClass (top 6) 2) "degree" "Graph.degree" ("Graph", some "degree")
def d_Graph_components : DefD := dOf (inClass (top 6) 3) "components" "Graph.components" ("Graph", some "components")
def d_Graph_is_connected : DefD := dOf (inClass (top 6) 4) "is_connected" "Graph.is_connected" ("Graph", some "is_connected")
def d_Graph_rank_of : DefD := dOf (inClass (top 6) 5) "rank_of" "Graph.rank_of" ("Graph", some "rank_of")
def d_Graph_deleted : DefD := dOf (inClass (top 6) 6) "deleted" "Graph.deleted" ("Graph", some "deleted")
def d_Graph_contracted : DefD := dOf (inClass (top 6) 7) "contracted" "Graph.contracted" ("Graph", some "contracted")
def d_Graph_reversed_edge : DefD := dOf (inClass (top 6) 8) "reversed_edge" "Graph.reversed_edge" ("Graph", some "reversed_edge")
def d_InvalidGraph___init__ : DefD := dOf (inClass (top 3) 0) "__init__" "InvalidGraph.__init__" ("InvalidGraph", some "__init__")
def d_InvalidSet___init__ : DefD := dOf (inClass (top 4) 0) "__init__" "InvalidSet.__init__" ("InvalidSet", some "__init__")
def fn : List DefD := [d_l_law_deck, d_l_law_take, d_l_law_edges, d_Graph___init__, d_check_bounds, d_excess, d_check_capacities, d_check_ends, d_open_ways, d_way_to, d_greatest_stream, d_circulation, d_in_sum, d_out_sum, d_is_vertex_set, d_judge_circulation, d_l_law_refusal, d_l_law_subsets, d_l_law_set_right, d_l_law_balanced, d_l_law_flow_right, d_l_law_plain, d_l_law_judged_right, d_law, d_l_wall, d_Graph_check_edge, d_Graph_degree, d_Graph_components, d_Graph_is_connected, d_Graph_rank_of, d_Graph_deleted, d_Graph_contracted, d_Graph_reversed_edge, d_InvalidGraph___init__, d_InvalidSet___init__]
def fa : List Fa := [.mkr "Graph", .meth "Graph" "check_edge", .meth "Graph" "degree", .meth "Graph" "components", .meth "Graph" "is_connected", .meth "Graph" "rank_of", .meth "Graph" "deleted", .meth "Graph" "contracted", .meth "Graph" "reversed_edge"]
def ex (K : PySem.W.Frag) : Bool := (moB nm K && (excB "what" "TreeError" K "InvalidGraph" && (excB "what" "TreeError" K "InvalidSet" && baseB K "TreeError")))
structure Z (K : PySem.W.Frag) (mg : Str → Option Value) : Prop where
  M : Mo nm K mg
  c : SaysD fa fn K
  eInvalidGraph : ExcF K "what" (ga K "InvalidGraph") (ma K (ga K "InvalidGraph") "__init__")
  eInvalidSet : ExcF K "what" (ga K "InvalidSet") (ma K (ga K "InvalidSet") "__init__")
  b : PySem.W.specialIn K (.ref (ga K "TreeError")) "__getattribute__" = some (some (.builtin "type.__getattribute__")) ∧ PySem.W.readsIn K (ga K "TreeError") (.type "type") = true ∧ PySem.W.findCls K (.ref (ga K "TreeError")) (.type "type") "__init__" = some (.val (.builtin "ValueError.__init__"))
theorem z_of {K : PySem.W.Frag} {mg : Str → Option Value} {h : Heap} (X : K.In h) (G : h.Ns mainGlobals mg) (c : SaysD fa fn K) (q : ex K = true) : Z K mg := by
  obtain ⟨h0, q⟩ := ba q
  obtain ⟨h1, q⟩ := ba q
  obtain ⟨h2, q⟩ := ba q
  exact ⟨mo_of X G h0, c, excB_ok h1, excB_ok h2, baseB_ok q⟩
section
variable {P : Program} {w : World} {K : PySem.W.Frag} {mg : Str → Option Value} {base : Heap}
abbrev At (P : Program) (w : World) (K : PySem.W.Frag) (mg : Str → Option Value) (base : Heap) (l : Nat) (f : Fn) (a : Addr) : Prop := FnAt P w K mg base (tabOf nm K hnd) l f a
theorem ok_InvalidGraph (z : Z K mg) : ∃ fd, FnOk P w K mg base (L2.CX P w) 1 (ma K (ga K "InvalidGraph") "__init__") fd ["self", "what"] (spX (tabOf nm K hnd) 1) ∧ Binds K fd ["self", "what"] [] := by
  obtain ⟨fd, F⟩ := z.c.def_ 33 (d := d_InvalidGraph___init__) rfl
  have hb : Binds K fd ["self", "what"] [] := (F.bindsN fun _ _ _ _ _ _ us hl => match us, hl with | [_, _], _ => rfl)
  obtain ⟨oc, od, dV, kV, doc, pm, an, cdv, ct, osl, rfl, lk, hcd, _, _⟩ := F.ex
  exact ⟨_, Mp.exc_ok (lvl := 0) (c := 1) (bs := "TreeError") (T := tabOf nm K hnd) lk hcd ⟨rfl, rfl, rfl, by decide +kernel, rfl, by decide +kernel, by decide +kernel⟩ (by decide +kernel) (by decide +kernel) (by decide +kernel) (by decide +kernel) (z.M.glo _ (by decide +kernel)) z.b.1 z.b.2.1 z.b.2.2 z.eInvalidGraph.ox z.eInvalidGraph.no rfl (by decide +kernel) (by decide +kernel), hb⟩
theorem ok_InvalidSet (z : Z K mg) : ∃ fd, FnOk P w K mg base (L2.CX P w) 1 (ma K (ga K "InvalidSet") "__init__") fd ["self", "what"] (spX (tabOf nm K hnd) 2) ∧ Binds K fd ["self", "what"] [] := by
  obtain ⟨fd, F⟩ := z.c.def_ 34 (d := d_InvalidSet___init__) rfl
  have hb : Binds K fd ["self", "what"] [] := (F.bindsN fun _ _ _ _ _ _ us hl => match us, hl with | [_, _], _ => rfl)
  obtain ⟨oc, od, dV, kV, doc, pm, an, cdv, ct, osl, rfl, lk, hcd, _, _⟩ := F.ex
  exact ⟨_, Mp.exc_ok (lvl := 0) (c := 2) (bs := "TreeError") (T := tabOf nm K hnd) lk hcd ⟨rfl, rfl, rfl, by decide +kernel, rfl, by decide +kernel, by decide +kernel⟩ (by decide +kernel) (by decide +kernel) (by decide +kernel) (by decide +kernel) (z.M.glo _ (by decide +kernel)) z.b.1 z.b.2.1 z.b.2.2 z.eInvalidSet.ox z.eInvalidSet.no rfl (by decide +kernel) (by decide +kernel), hb⟩
theorem xns_ok : ∀ c x, exns.lookup c = some x → nm.exs[c]? = some x ∧ nm.gls.contains x = true := lk_cons ⟨rfl, by decide +kernel⟩ (lk_cons ⟨rfl, by decide +kernel⟩ (lk_cons ⟨rfl, by decide +kernel⟩ (lk_nil)))
theorem rss_ok (z : Z K mg) {lvl : Nat} (hl : 2 ≤ lvl) : ∀ c x, exrs.lookup c = some x → (∃ j fI fd ps, j + 1 ≤ lvl ∧ ExcF K nm.xfn (ga K x) fI ∧ FnOk P w K mg base (L2.CX P w) j fI fd ps (spX (tabOf nm K hnd) c) ∧ Binds K fd ps []) ∧ nm.exs[c]? = some x ∧ nm.gls.contains x = true := by
  obtain ⟨fdInvalidGraph, FInvalidGraph, bInvalidGraph⟩ := ok_InvalidGraph (P := P) (w := w) (base := base) z
  obtain ⟨fdInvalidSet, FInvalidSet, bInvalidSet⟩ := ok_InvalidSet (P := P) (w := w) (base := base) z
  exact lk_cons ⟨⟨1, _, _, _, hl, z.eInvalidGraph, FInvalidGraph, bInvalidGraph⟩, rfl, by decide +kernel⟩ (lk_cons ⟨⟨1, _, _, _, hl, z.eInvalidSet, FInvalidSet, bInvalidSet⟩, rfl, by decide +kernel⟩ (lk_nil))
def k_l_law_deck : Ck := ⟨["script", "cells", "each", "deck", "seed", "k", "cell", "rest", "at"], defScope (top 21), fun _ => true, [], [], [], [], fun i => flds.getD i "", 2, true⟩
def q_l_law_deck : Cx2 := ⟨"what", exns, exrs⟩
theorem kp_l_law_deck (z : Z K mg) : PySem.W.keepIn K (.ref (ga K "_law_deck")) = true := by
  obtain ⟨fd, F⟩ := z.c.def_ 0 (d := d_l_law_deck) rfl
  exact F.kp
theorem ok_l_law_deck (z : Z K mg) : At P w K mg base 3 m_l_law_deck (ga K "_law_deck") := by
  obtain ⟨fd, F⟩ := z.c.def_ 0 (d := d_l_law_deck) rfl
  exact def_ok (k := k_l_law_deck) (q := q_l_law_deck) (df := b_l_law_deck) (C := c_l_law_deck) (lvl := 2) (ps := ["script", "cells", "each"]) F (z.M.wd (by decide +kernel) rfl rfl rfl (fun _ => List.cons_ne_nil _ _) (fun _ => List.cons_ne_nil _ _) rfl rfl (lk_nil) (lk_nil) (lk_nil) xns_ok (rss_ok z (by omega))) ⟨rfl, rfl, rfl, by decide +kernel, rfl, by decide +kernel, by decide +kernel⟩ rfl rfl rfl (by decide +kernel) (F.bindsN fun _ _ _ _ _ _ us hl => match us, hl with | [_, _, _], _ => rfl)
def k_l_law_take : Ck := ⟨["deck", "many"], defScope (top 22), fun _ => true, [], [], [], [], fun i => flds.getD i "", 2, true⟩
def q_l_law_take : Cx2 := ⟨"what", exns, exrs⟩
theorem kp_l_law_take (z : Z K mg) : PySem.W.keepIn K (.ref (ga K "_law_take")) = true := by
  obtain ⟨fd, F⟩ := z.c.def_ 1 (d := d_l_law_take) rfl
  exact F.kp
theorem ok_l_law_take (z : Z K mg) : At P w K mg base 3 m_l_law_take (ga K "_law_take") := by
  obtain ⟨fd, F⟩ := z.c.def_ 1 (d := d_l_law_take) rfl
  exact def_ok (k := k_l_law_take) (q := q_l_law_take) (df := b_l_law_take) (C := c_l_law_take) (lvl := 2) (ps := ["deck", "many"]) F (z.M.wd (by decide +kernel) rfl rfl rfl (fun _ => List.cons_ne_nil _ _) (fun _ => List.cons_ne_nil _ _) rfl rfl (lk_nil) (lk_nil) (lk_nil) xns_ok (rss_ok z (by omega))) ⟨rfl, rfl, rfl, by decide +kernel, rfl, by decide +kernel, by decide +kernel⟩ rfl rfl rfl (by decide +kernel) (F.bindsN fun _ _ _ _ _ _ us hl => match us, hl with | [_, _], _ => rfl)
def k_l_law_edges : Ck := ⟨["deck", "vertices", "most", "turn"], defScope (top 24), fun _ => true, [(1, "_law_take")], [], [], [], fun i => flds.getD i "", 2, true⟩
def q_l_law_edges : Cx2 := ⟨"what", exns, exrs⟩
theorem kp_l_law_edges (z : Z K mg) : PySem.W.keepIn K (.ref (ga K "_law_edges")) = true := by
  obtain ⟨fd, F⟩ := z.c.def_ 2 (d := d_l_law_edges) rfl
  exact F.kp
theorem ok_l_law_edges (z : Z K mg) : At P w K mg base 4 m_l_law_edges (ga K "_law_edges") := by
  obtain ⟨fd, F⟩ := z.c.def_ 2 (d := d_l_law_edges) rfl
  exact def_ok (k := k_l_law_edges) (q := q_l_law_edges) (df := b_l_law_edges) (C := c_l_law_edges) (lvl := 3) (ps := ["deck", "vertices", "most"]) F (z.M.wd (by decide +kernel) rfl rfl rfl (fun _ => List.cons_ne_nil _ _) (fun _ => List.cons_ne_nil _ _) rfl rfl (lk_cons ⟨((ok_l_law_take z).mono (by omega)), by decide +kernel, kp_l_law_take z⟩ (lk_nil)) (lk_nil) (lk_nil) xns_ok (rss_ok z (by omega))) ⟨rfl, rfl, rfl, by decide +kernel, rfl, by decide +kernel, by decide +kernel⟩ rfl rfl rfl (by decide +kernel) (F.bindsN fun _ _ _ _ _ _ us hl => match us, hl with | [_, _, _], _ => rfl)
def k_Graph___init__ : Ck := ⟨["self", "vertices", "edges", "first", "second"], defScope (inClass (top 6) 0), fun _ => true, [], [], [], [], fun i => flds.getD i "", 2, true⟩
def q_Graph___init__ : Cx2 := ⟨"what", exns, exrs⟩
theorem ok_Graph___init__ (z : Z K mg) : At P w K mg base 3 m_Graph___init__ (ma K (ga K "Graph") "__init__") := by
  obtain ⟨fd, F⟩ := z.c.def_ 3 (d := d_Graph___init__) rfl
  exact def_ok (k := k_Graph___init__) (q := q_Graph___init__) (df := b_Graph___init__) (C := c_Graph___init__) (lvl := 2) (ps := ["self", "vertices", "edges"]) F (z.M.wd (by decide +kernel) rfl rfl rfl (fun _ => List.cons_ne_nil _ _) (fun _ => List.cons_ne_nil _ _) rfl rfl (lk_nil) (lk_nil) (lk_nil) xns_ok (rss_ok z (by omega))) ⟨rfl, rfl, rfl, by decide +kernel, rfl, by decide +kernel, by decide +kernel⟩ rfl rfl rfl (by decide +kernel) (F.bindsN fun _ _ _ _ _ _ us hl => match us, hl with | [_, _, _], _ => rfl)
def k_check_bounds : Ck := ⟨["graph", "lower", "upper", "edge"], defScope (top 17), fun _ => true, [], [], [], [], fun i => flds.getD i "", 2, true⟩
def q_check_bounds : Cx2 := ⟨"what", exns, exrs⟩
theorem kp_check_bounds (z : Z K mg) : PySem.W.keepIn K (.ref (ga K "check_bounds")) = true := by
  obtain ⟨fd, F⟩ := z.c.def_ 4 (d := d_check_bounds) rfl
  exact F.kp
theorem ok_check_bounds (z : Z K mg) : At P w K mg base 3 m_check_bounds (ga K "check_bounds") := by
  obtain ⟨fd, F⟩ := z.c.def_ 4 (d := d_check_bounds) rfl
  exact def_ok (k := k_check_bounds) (q := q_check_bounds) (df := b_check_bounds) (C := c_check_bounds) (lvl := 2) (ps := ["graph", "lower", "upper"]) F (z.M.wd (by decide +kernel) rfl rfl rfl (fun _ => List.cons_ne_nil _ _) (fun _ => List.cons_ne_nil _ _) rfl rfl (lk_nil) (lk_nil) (lk_nil) xns_ok (rss_ok z (by omega))) ⟨rfl, rfl, rfl, by decide +kernel, rfl, by decide +kernel, by decide +kernel⟩ rfl rfl rfl (by decide +kernel) (F.bindsN fun _ _ _ _ _ _ us hl => match us, hl with | [_, _, _], _ => rfl)
def k_excess : Ck := ⟨["graph", "values", "found", "value", "first", "second"], defScope (top 13), fun _ => true, [], [], [], [], fun i => flds.getD i "", 2, true⟩
def q_excess : Cx2 := ⟨"what", exns, exrs⟩
theorem kp_excess (z : Z K mg) : PySem.W.keepIn K (.ref (ga K "excess")) = true := by
  obtain ⟨fd, F⟩ := z.c.def_ 5 (d := d_excess) rfl
  exact F.kp
theorem ok_excess (z : Z K mg) : At P w K mg base 3 m_excess (ga K "excess") := by
  obtain ⟨fd, F⟩ := z.c.def_ 5 (d := d_excess) rfl
  exact def_ok (k := k_excess) (q := q_excess) (df := b_excess) (C := c_excess) (lvl := 2) (ps := ["graph", "values"]) F (z.M.wd (by decide +kernel) rfl rfl rfl (fun _ => List.cons_ne_nil _ _) (fun _ => List.cons_ne_nil _ _) rfl rfl (lk_nil) (lk_nil) (lk_nil) xns_ok (rss_ok z (by omega))) ⟨rfl, rfl, rfl, by decide +kernel, rfl, by decide +kernel, by decide +kernel⟩ rfl rfl rfl (by decide +kernel) (F.bindsN fun _ _ _ _ _ _ us hl => match us, hl with | [_, _], _ => rfl)
def k_check_capacities : Ck := ⟨["graph", "capacities"], defScope (top 8), fun _ => true, [], [], [], [], fun i => flds.getD i "", 2, true⟩
def q_check_capacities : Cx2 := ⟨"what", exns, exrs⟩
theorem kp_check_capacities (z : Z K mg) : PySem.W.keepIn K (.ref (ga K "check_capacities")) = true := by
  obtain ⟨fd, F⟩ := z.c.def_ 6 (d := d_check_capacities) rfl
  exact F.kp
theorem ok_check_capacities (z : Z K mg) : At P w K mg base 3 m_check_capacities (ga K "check_capacities") := by
  obtain ⟨fd, F⟩ := z.c.def_ 6 (d := d_check_capacities) rfl
  exact def_ok (k := k_check_capacities) (q := q_check_capacities) (df := b_check_capacities) (C := c_check_capacities) (lvl := 2) (ps := ["graph", "capacities"]) F (z.M.wd (by decide +kernel) rfl rfl rfl (fun _ => List.cons_ne_nil _ _) (fun _ => List.cons_ne_nil _ _) rfl rfl (lk_nil) (lk_nil) (lk_nil) xns_ok (rss_ok z (by omega))) ⟨rfl, rfl, rfl, by decide +kernel, rfl, by decide +kernel, by decide +kernel⟩ rfl rfl rfl (by decide +kernel) (F.bindsN fun _ _ _ _ _ _ us hl => match us, hl with | [_, _], _ => rfl)
def k_check_ends : Ck := ⟨["graph", "start", "end"], defScope (top 9), fun _ => true, [], [], [], [], fun i => flds.getD i "", 2, true⟩
def q_check_ends : Cx2 := ⟨"what", exns, exrs⟩
theorem kp_check_ends (z : Z K mg) : PySem.W.keepIn K (.ref (ga K "check_ends")) = true := by
  obtain ⟨fd, F⟩ := z.c.def_ 7 (d := d_check_ends) rfl
  exact F.kp
theorem ok_check_ends (z : Z K mg) : At P w K mg base 3 m_check_ends (ga K "check_ends") := by
  obtain ⟨fd, F⟩ := z.c.def_ 7 (d := d_check_ends) rfl
  exact def_ok (k := k_check_ends) (q := q_check_ends) (df := b_check_ends) (C := c_check_ends) (lvl := 2) (ps := ["graph", "start", "end"]) F (z.M.wd (by decide +kernel) rfl rfl rfl (fun _ => List.cons_ne_nil _ _) (fun _ => List.cons_ne_nil _ _) rfl rfl (lk_nil) (lk_nil) (lk_nil) xns_ok (rss_ok z (by omega))) ⟨rfl, rfl, rfl, by decide +kernel, rfl, by decide +kernel, by decide +kernel⟩ rfl rfl rfl (by decide +kernel) (F.bindsN fun _ _ _ _ _ _ us hl => match us, hl with | [_, _, _], _ => rfl)
def k_open_ways : Ck := ⟨["graph", "capacities", "stream", "start", "found", "waiting", "here", "edge", "first", "second"], defScope (top 10), fun _ => true, [], [], [], [], fun i => flds.getD i "", 2, true⟩
def q_open_ways : Cx2 := ⟨"what", exns, exrs⟩
theorem kp_open_ways (z : Z K mg) : PySem.W.keepIn K (.ref (ga K "open_ways")) = true := by
  obtain ⟨fd, F⟩ := z.c.def_ 8 (d := d_open_ways) rfl
  exact F.kp
theorem ok_open_ways (z : Z K mg) : At P w K mg base 3 m_open_ways (ga K "open_ways") := by
  obtain ⟨fd, F⟩ := z.c.def_ 8 (d := d_open_ways) rfl
  exact def_ok (k := k_open_ways) (q := q_open_ways) (df := b_open_ways) (C := c_open_ways) (lvl := 2) (ps := ["graph", "capacities", "stream", "start"]) F (z.M.wd (by decide +kernel) rfl rfl rfl (fun _ => List.cons_ne_nil _ _) (fun _ => List.cons_ne_nil _ _) rfl rfl (lk_nil) (lk_nil) (lk_nil) xns_ok (rss_ok z (by omega))) ⟨rfl, rfl, rfl, by decide +kernel, rfl, by decide +kernel, by decide +kernel⟩ rfl rfl rfl (by decide +kernel) (F.bindsN fun _ _ _ _ _ _ us hl => match us, hl with | [_, _, _, _], _ => rfl)
def k_way_to : Ck := ⟨["ways", "end", "found", "here", "edge", "sign"], defScope (top 11), fun _ => true, [], [], [], [], fun i => flds.getD i "", 2, true⟩
def q_way_to : Cx2 := ⟨"what", exns, exrs⟩
theorem kp_way_to (z : Z K mg) : PySem.W.keepIn K (.ref (ga K "way_to")) = true := by
  obtain ⟨fd, F⟩ := z.c.def_ 9 (d := d_way_to) rfl
  exact F.kp
theorem ok_way_to (z : Z K mg) : At P w K mg base 3 m_way_to (ga K "way_to") := by
  obtain ⟨fd, F⟩ := z.c.def_ 9 (d := d_way_to) rfl
  exact def_ok (k := k_way_to) (q := q_way_to) (df := b_way_to) (C := c_way_to) (lvl := 2) (ps := ["ways", "end"]) F (z.M.wd (by decide +kernel) rfl rfl rfl (fun _ => List.cons_ne_nil _ _) (fun _ => List.cons_ne_nil _ _) rfl rfl (lk_nil) (lk_nil) (lk_nil) xns_ok (rss_ok z (by omega))) ⟨rfl, rfl, rfl, by decide +kernel, rfl, by decide +kernel, by decide +kernel⟩ rfl rfl rfl (by decide +kernel) (F.bindsN fun _ _ _ _ _ _ us hl => match us, hl with | [_, _], _ => rfl)
def k_greatest_stream : Ck := ⟨["graph", "capacities", "start", "end", "stream", "value", "ways", "way", "rooms", "edge", "sign"], defScope (top 12), fun _ => true, [(6, "check_capacities"), (7, "check_ends"), (8, "open_ways"), (9, "way_to")], [], [], [], fun i => flds.getD i "", 2, true⟩
def q_greatest_stream : Cx2 := ⟨"what", exns, exrs⟩
theorem kp_greatest_stream (z : Z K mg) : PySem.W.keepIn K (.ref (ga K "greatest_stream")) = true := by
  obtain ⟨fd, F⟩ := z.c.def_ 10 (d := d_greatest_stream) rfl
  exact F.kp
theorem ok_greatest_stream (z : Z K mg) : At P w K mg base 4 m_greatest_stream (ga K "greatest_stream") := by
  obtain ⟨fd, F⟩ := z.c.def_ 10 (d := d_greatest_stream) rfl
  exact def_ok (k := k_greatest_stream) (q := q_greatest_stream) (df := b_greatest_stream) (C := c_greatest_stream) (lvl := 3) (ps := ["graph", "capacities", "start", "end"]) F (z.M.wd (by decide +kernel) rfl rfl rfl (fun _ => List.cons_ne_nil _ _) (fun _ => List.cons_ne_nil _ _) rfl rfl (lk_cons ⟨((ok_check_capacities z).mono (by omega)), by decide +kernel, kp_check_capacities z⟩ (lk_cons ⟨((ok_check_ends z).mono (by omega)), by decide +kernel, kp_check_ends z⟩ (lk_cons ⟨((ok_open_ways z).mono (by omega)), by decide +kernel, kp_open_ways z⟩ (lk_cons ⟨((ok_way_to z).mono (by omega)), by decide +kernel, kp_way_to z⟩ (lk_nil))))) (lk_nil) (lk_nil) xns_ok (rss_ok z (by omega))) ⟨rfl, rfl, rfl, by decide +kernel, rfl, by decide +kernel, by decide +kernel⟩ rfl rfl rfl (by decide +kernel) (F.bindsN fun _ _ _ _ _ _ us hl => match us, hl with | [_, _, _, _], _ => rfl)
def k_circulation : Ck := ⟨["graph", "lower", "upper", "needs", "start", "edges", "capacities", "vertex", "value", "stream", "side", "low", "high", "need", "more"], defScope (top 18), fun _ => true, [(4, "check_bounds"), (5, "excess"), (10, "greatest_stream")], [], [(3, 0, "Graph")], [], fun i => flds.getD i "", 2, true⟩
def q_circulation : Cx2 := ⟨"what", exns, exrs⟩
theorem kp_circulation (z : Z K mg) : PySem.W.keepIn K (.ref (ga K "circulation")) = true := by
  obtain ⟨fd, F⟩ := z.c.def_ 11 (d := d_circulation) rfl
  exact F.kp
theorem ok_circulation (z : Z K mg) : At P w K mg base 5 m_circulation (ga K "circulation") := by
  obtain ⟨fd, F⟩ := z.c.def_ 11 (d := d_circulation) rfl
  exact def_ok (k := k_circulation) (q := q_circulation) (df := b_circulation) (C := c_circulation) (lvl := 4) (ps := ["graph", "lower", "upper"]) F (z.M.wd (by decide +kernel) rfl rfl rfl (fun _ => List.cons_ne_nil _ _) (fun _ => List.cons_ne_nil _ _) rfl rfl (lk_cons ⟨((ok_check_bounds z).mono (by omega)), by decide +kernel, kp_check_bounds z⟩ (lk_cons ⟨((ok_excess z).mono (by omega)), by decide +kernel, kp_excess z⟩ (lk_cons ⟨((ok_greatest_stream z).mono (by omega)), by decide +kernel, kp_greatest_stream z⟩ (lk_nil)))) (lk_nil) (lk_cons ⟨_, _, rfl, ((ok_Graph___init__ z).mono (by omega)), by decide +kernel, rfl, He.mkr_ok (z.c.fact 0 rfl)⟩ (lk_nil)) xns_ok (rss_ok z (by omega))) ⟨rfl, rfl, rfl, by decide +kernel, rfl, by decide +kernel, by decide +kernel⟩ rfl rfl rfl (by decide +kernel) (F.bindsN fun _ _ _ _ _ _ us hl => match us, hl with | [_, _, _], _ => rfl)
def k_in_sum : Ck := ⟨["graph", "values", "side", "total", "value", "first", "second"], defScope (top 15), fun _ => true, [], [], [], [], fun i => flds.getD i "", 2, true⟩
def q_in_sum : Cx2 := ⟨"what", exns, exrs⟩
theorem kp_in_sum (z : Z K mg) : PySem.W.keepIn K (.ref (ga K "in_sum")) = true := by
  obtain ⟨fd, F⟩ := z.c.def_ 12 (d := d_in_sum) rfl
  exact F.kp
theorem ok_in_sum (z : Z K mg) : At P w K mg base 3 m_in_sum (ga K "in_sum") := by
  obtain ⟨fd, F⟩ := z.c.def_ 12 (d := d_in_sum) rfl
  exact def_ok (k := k_in_sum) (q := q_in_sum) (df := b_in_sum) (C := c_in_sum) (lvl := 2) (ps := ["graph", "values", "side"]) F (z.M.wd (by decide +kernel) rfl rfl rfl (fun _ => List.cons_ne_nil _ _) (fun _ => List.cons_ne_nil _ _) rfl rfl (lk_nil) (lk_nil) (lk_nil) xns_ok (rss_ok z (by omega))) ⟨rfl, rfl, rfl, by decide +kernel, rfl, by decide +kernel, by decide +kernel⟩ rfl rfl rfl (by decide +kernel) (F.bindsN fun _ _ _ _ _ _ us hl => match us, hl with | [_, _, _], _ => rfl)
def k_out_sum : Ck := ⟨["graph", "values", "side", "total", "value", "first", "second"], defScope (top 14), fun _ => true, [], [], [], [], fun i => flds.getD i "", 2, true⟩
def q_out_sum : Cx2 := ⟨"what", exns, exrs⟩
theorem kp_out_sum (z : Z K mg) : PySem.W.keepIn K (.ref (ga K "out_sum")) = true := by
  obtain ⟨fd, F⟩ := z.c.def_ 13 (d := d_out_sum) rfl
  exact F.kp
theorem ok_out_sum (z : Z K mg) : At P w K mg base 3 m_out_sum (ga K "out_sum") := by
  obtain ⟨fd, F⟩ := z.c.def_ 13 (d := d_out_sum) rfl
  exact def_ok (k := k_out_sum) (q := q_out_sum) (df := b_out_sum) (C := c_out_sum) (lvl := 2) (ps := ["graph", "values", "side"]) F (z.M.wd (by decide +kernel) rfl rfl rfl (fun _ => List.cons_ne_nil _ _) (fun _ => List.cons_ne_nil _ _) rfl rfl (lk_nil) (lk_nil) (lk_nil) xns_ok (rss_ok z (by omega))) ⟨rfl, rfl, rfl, by decide +kernel, rfl, by decide +kernel, by decide +kernel⟩ rfl rfl rfl (by decide +kernel) (F.bindsN fun _ _ _ _ _ _ us hl => match us, hl with | [_, _, _], _ => rfl)
def k_is_vertex_set : Ck := ⟨["graph", "side", "vertex"], defScope (top 16), fun _ => true, [], [], [], [], fun i => flds.getD i "", 2, true⟩
def q_is_vertex_set : Cx2 := ⟨"what", exns, exrs⟩
theorem kp_is_vertex_set (z : Z K mg) : PySem.W.keepIn K (.ref (ga K "is_vertex_set")) = true := by
  obtain ⟨fd, F⟩ := z.c.def_ 14 (d := d_is_vertex_set) rfl
  exact F.kp
theorem ok_is_vertex_set (z : Z K mg) : At P w K mg base 3 m_is_vertex_set (ga K "is_vertex_set") := by
  obtain ⟨fd, F⟩ := z.c.def_ 14 (d := d_is_vertex_set) rfl
  exact def_ok (k := k_is_vertex_set) (q := q_is_vertex_set) (df := b_is_vertex_set) (C := c_is_vertex_set) (lvl := 2) (ps := ["graph", "side"]) F (z.M.wd (by decide +kernel) rfl rfl rfl (fun _ => List.cons_ne_nil _ _) (fun _ => List.cons_ne_nil _ _) rfl rfl (lk_nil) (lk_nil) (lk_nil) xns_ok (rss_ok z (by omega))) ⟨rfl, rfl, rfl, by decide +kernel, rfl, by decide +kernel, by decide +kernel⟩ rfl rfl rfl (by decide +kernel) (F.bindsN fun _ _ _ _ _ _ us hl => match us, hl with | [_, _], _ => rfl)
def k_judge_circulation : Ck := ⟨["graph", "lower", "upper", "paper", "word", "row", "edge", "need"], defScope (top 19), fun _ => true, [(4, "check_bounds"), (12, "in_sum"), (13, "out_sum"), (14, "is_vertex_set"), (5, "excess")], [], [], [], fun i => flds.getD i "", 2, true⟩
def q_judge_circulation : Cx2 := ⟨"what", exns, exrs⟩
theorem kp_judge_circulation (z : Z K mg) : PySem.W.keepIn K (.ref (ga K "judge_circulation")) = true := by
  obtain ⟨fd, F⟩ := z.c.def_ 15 (d := d_judge_circulation) rfl
  exact F.kp
theorem ok_judge_circulation (z : Z K mg) : At P w K mg base 4 m_judge_circulation (ga K "judge_circulation") := by
  obtain ⟨fd, F⟩ := z.c.def_ 15 (d := d_judge_circulation) rfl
  exact def_ok (k := k_judge_circulation) (q := q_judge_circulation) (df := b_judge_circulation) (C := c_judge_circulation) (lvl := 3) (ps := ["graph", "lower", "upper", "paper"]) F (z.M.wd (by decide +kernel) rfl rfl rfl (fun _ => List.cons_ne_nil _ _) (fun _ => List.cons_ne_nil _ _) rfl rfl (lk_cons ⟨((ok_check_bounds z).mono (by omega)), by decide +kernel, kp_check_bounds z⟩ (lk_cons ⟨((ok_in_sum z).mono (by omega)), by decide +kernel, kp_in_sum z⟩ (lk_cons ⟨((ok_out_sum z).mono (by omega)), by decide +kernel, kp_out_sum z⟩ (lk_cons ⟨((ok_is_vertex_set z).mono (by omega)), by decide +kernel, kp_is_vertex_set z⟩ (lk_cons ⟨((ok_excess z).mono (by omega)), by decide +kernel, kp_excess z⟩ (lk_nil)))))) (lk_nil) (lk_nil) xns_ok (rss_ok z (by omega))) ⟨rfl, rfl, rfl, by decide +kernel, rfl, by decide +kernel, by decide +kernel⟩ rfl rfl rfl (by decide +kernel) (F.bindsN fun _ _ _ _ _ _ us hl => match us, hl with | [_, _, _, _], _ => rfl)
def k_l_law_refusal : Ck := ⟨["ask", "graph", "lower", "upper", "error"], defScope (top 29), fun _ => true, [(11, "circulation"), (15, "judge_circulation")], [], [], [], fun i => flds.getD i "", 2, true⟩
def q_l_law_refusal : Cx2 := ⟨"what", exns, exrs⟩
theorem kp_l_law_refusal (z : Z K mg) : PySem.W.keepIn K (.ref (ga K "_law_refusal")) = true := by
  obtain ⟨fd, F⟩ := z.c.def_ 16 (d := d_l_law_refusal) rfl
  exact F.kp
theorem ok_l_law_refusal (z : Z K mg) : At P w K mg base 6 m_l_law_refusal (ga K "_law_refusal") := by
  obtain ⟨fd, F⟩ := z.c.def_ 16 (d := d_l_law_refusal) rfl
  exact def_ok (k := k_l_law_refusal) (q := q_l_law_refusal) (df := b_l_law_refusal) (C := c_l_law_refusal) (lvl := 5) (ps := ["ask", "graph", "lower", "upper"]) F (z.M.wd (by decide +kernel) rfl rfl rfl (fun _ => List.cons_ne_nil _ _) (fun _ => List.cons_ne_nil _ _) rfl rfl (lk_cons ⟨((ok_circulation z).mono (by omega)), by decide +kernel, kp_circulation z⟩ (lk_cons ⟨((ok_judge_circulation z).mono (by omega)), by decide +kernel, kp_judge_circulation z⟩ (lk_nil))) (lk_nil) (lk_nil) xns_ok (rss_ok z (by omega))) ⟨rfl, rfl, rfl, by decide +kernel, rfl, by decide +kernel, by decide +kernel⟩ rfl rfl rfl (by decide +kernel) (F.bindsN fun _ _ _ _ _ _ us hl => match us, hl with | [_, _, _, _], _ => rfl)
def k_l_law_subsets : Ck := ⟨["size", "found", "item", "row"], defScope (top 25), fun _ => true, [], [], [], [], fun i => flds.getD i "", 2, true⟩
def q_l_law_subsets : Cx2 := ⟨"what", exns, exrs⟩
theorem kp_l_law_subsets (z : Z K mg) : PySem.W.keepIn K (.ref (ga K "_law_subsets")) = true := by
  obtain ⟨fd, F⟩ := z.c.def_ 17 (d := d_l_law_subsets) rfl
  exact F.kp
theorem ok_l_law_subsets (z : Z K mg) : At P w K mg base 3 m_l_law_subsets (ga K "_law_subsets") := by
  obtain ⟨fd, F⟩ := z.c.def_ 17 (d := d_l_law_subsets) rfl
  exact def_ok (k := k_l_law_subsets) (q := q_l_law_subsets) (df := b_l_law_subsets) (C := c_l_law_subsets) (lvl := 2) (ps := ["size"]) F (z.M.wd (by decide +kernel) rfl rfl rfl (fun _ => List.cons_ne_nil _ _) (fun _ => List.cons_ne_nil _ _) rfl rfl (lk_nil) (lk_nil) (lk_nil) xns_ok (rss_ok z (by omega))) ⟨rfl, rfl, rfl, by decide +kernel, rfl, by decide +kernel, by decide +kernel⟩ rfl rfl rfl (by decide +kernel) (F.bindsN fun _ _ _ _ _ _ us hl => match us, hl with | [_], _ => rfl)
def k_l_law_set_right : Ck := ⟨["edges", "lower", "upper", "side", "least", "most", "at", "first", "second"], defScope (top 28), fun _ => true, [], [], [], [], fun i => flds.getD i "", 2, true⟩
def q_l_law_set_right : Cx2 := ⟨"what", exns, exrs⟩
theorem kp_l_law_set_right (z : Z K mg) : PySem.W.keepIn K (.ref (ga K "_law_set_right")) = true := by
  obtain ⟨fd, F⟩ := z.c.def_ 18 (d := d_l_law_set_right) rfl
  exact F.kp
theorem ok_l_law_set_right (z : Z K mg) : At P w K mg base 3 m_l_law_set_right (ga K "_law_set_right") := by
  obtain ⟨fd, F⟩ := z.c.def_ 18 (d := d_l_law_set_right) rfl
  exact def_ok (k := k_l_law_set_right) (q := q_l_law_set_right) (df := b_l_law_set_right) (C := c_l_law_set_right) (lvl := 2) (ps := ["edges", "lower", "upper", "side"]) F (z.M.wd (by decide +kernel) rfl rfl rfl (fun _ => List.cons_ne_nil _ _) (fun _ => List.cons_ne_nil _ _) rfl rfl (lk_nil) (lk_nil) (lk_nil) xns_ok (rss_ok z (by omega))) ⟨rfl, rfl, rfl, by decide +kernel, rfl, by decide +kernel, by decide +kernel⟩ rfl rfl rfl (by decide +kernel) (F.bindsN fun _ _ _ _ _ _ us hl => match us, hl with | [_, _, _, _], _ => rfl)
def k_l_law_balanced : Ck := ⟨["vertices", "edges", "row", "totals", "item", "first", "second"], defScope (top 26), fun _ => true, [], [], [], [], fun i => flds.getD i "", 2, true⟩
def q_l_law_balanced : Cx2 := ⟨"what", exns, exrs⟩
theorem kp_l_law_balanced (z : Z K mg) : PySem.W.keepIn K (.ref (ga K "_law_balanced")) = true := by
  obtain ⟨fd, F⟩ := z.c.def_ 19 (d := d_l_law_balanced) rfl
  exact F.kp
theorem ok_l_law_balanced (z : Z K mg) : At P w K mg base 3 m_l_law_balanced (ga K "_law_balanced") := by
  obtain ⟨fd, F⟩ := z.c.def_ 19 (d := d_l_law_balanced) rfl
  exact def_ok (k := k_l_law_balanced) (q := q_l_law_balanced) (df := b_l_law_balanced) (C := c_l_law_balanced) (lvl := 2) (ps := ["vertices", "edges", "row"]) F (z.M.wd (by decide +kernel) rfl rfl rfl (fun _ => List.cons_ne_nil _ _) (fun _ => List.cons_ne_nil _ _) rfl rfl (lk_nil) (lk_nil) (lk_nil) xns_ok (rss_ok z (by omega))) ⟨rfl, rfl, rfl, by decide +kernel, rfl, by decide +kernel, by decide +kernel⟩ rfl rfl rfl (by decide +kernel) (F.bindsN fun _ _ _ _ _ _ us hl => match us, hl with | [_, _, _], _ => rfl)
def k_l_law_flow_right : Ck := ⟨["vertices", "edges", "lower", "upper", "row", "at"], defScope (top 27), fun _ => true, [(19, "_law_balanced")], [], [], [], fun i => flds.getD i "", 2, true⟩
def q_l_law_flow_right : Cx2 := ⟨"what", exns, exrs⟩
theorem kp_l_law_flow_right (z : Z K mg) : PySem.W.keepIn K (.ref (ga K "_law_flow_right")) = true := by
  obtain ⟨fd, F⟩ := z.c.def_ 20 (d := d_l_law_flow_right) rfl
  exact F.kp
theorem ok_l_law_flow_right (z : Z K mg) : At P w K mg base 4 m_l_law_flow_right (ga K "_law_flow_right") := by
  obtain ⟨fd, F⟩ := z.c.def_ 20 (d := d_l_law_flow_right) rfl
  exact def_ok (k := k_l_law_flow_right) (q := q_l_law_flow_right) (df := b_l_law_flow_right) (C := c_l_law_flow_right) (lvl := 3) (ps := ["vertices", "edges", "lower", "upper", "row"]) F (z.M.wd (by decide +kernel) rfl rfl rfl (fun _ => List.cons_ne_nil _ _) (fun _ => List.cons_ne_nil _ _) rfl rfl (lk_cons ⟨((ok_l_law_balanced z).mono (by omega)), by decide +kernel, kp_l_law_balanced z⟩ (lk_nil)) (lk_nil) (lk_nil) xns_ok (rss_ok z (by omega))) ⟨rfl, rfl, rfl, by decide +kernel, rfl, by decide +kernel, by decide +kernel⟩ rfl rfl rfl (by decide +kernel) (F.bindsN fun _ _ _ _ _ _ us hl => match us, hl with | [_, _, _, _, _], _ => rfl)
def k_l_law_plain : Ck := ⟨["value", "item"], defScope (top 23), fun _ => true, [(21, "_law_plain")], [], [], [], fun i => flds.getD i "", 2, true⟩
def q_l_law_plain : Cx2 := ⟨"what", exns, exrs⟩
theorem kp_l_law_plain (z : Z K mg) : PySem.W.keepIn K (.ref (ga K "_law_plain")) = true := by
  obtain ⟨fd, F⟩ := z.c.def_ 21 (d := d_l_law_plain) rfl
  exact F.kp
theorem okr_l_law_plain (z : Z K mg) : ∀ m, At P w K mg base (m + 2) (r_l_law_plain m) (ga K "_law_plain")
  | 0 => by
    obtain ⟨fd, F⟩ := z.c.def_ 21 (d := d_l_law_plain) rfl
    exact def_none (N := ["value", "item"]) (ps := ["value"]) F ⟨rfl, rfl, rfl, by decide +kernel, rfl, by decide +kernel, by decide +kernel⟩ (F.bindsN fun _ _ _ _ _ _ us hl => match us, hl with | [_], _ => rfl) (by omega)
  | m + 1 => by
    have ih : At P w K mg base (m + 2) (r_l_law_plain m) (ga K "_law_plain") := okr_l_law_plain z m
    obtain ⟨fd, F⟩ := z.c.def_ 21 (d := d_l_law_plain) rfl
    exact FnAt.mono (def_ok (k := k_l_law_plain) (q := q_l_law_plain) (df := b_l_law_plain) (C := c_l_law_plain (r_l_law_plain m)) (lvl := m + 2) (ps := ["value"]) F (z.M.wd (by decide +kernel) rfl rfl rfl (fun _ => List.cons_ne_nil _ _) (fun _ => List.cons_ne_nil _ _) rfl rfl (lk_cons ⟨(ih.mono (by omega)), by decide +kernel, kp_l_law_plain z⟩ (lk_nil)) (lk_nil) (lk_nil) xns_ok (rss_ok z (by omega))) ⟨rfl, rfl, rfl, by decide +kernel, rfl, by decide +kernel, by decide +kernel⟩ rfl rfl rfl (by decide +kernel) (F.bindsN fun _ _ _ _ _ _ us hl => match us, hl with | [_], _ => rfl)) (by omega)
theorem ok_l_law_plain (z : Z K mg) : At P w K mg base 62 m_l_law_plain (ga K "_law_plain") := (okr_l_law_plain z 60).mono (by omega)
def k_l_law_judged_right : Ck := ⟨["deck", "graph", "edges", "lower", "upper", "vertices", "side", "row", "due", "at"], defScope (top 30), fun _ => true, [(17, "_law_subsets"), (20, "_law_flow_right"), (18, "_law_set_right"), (21, "_law_plain"), (15, "judge_circulation"), (1, "_law_take")], [], [], [], fun i => flds.getD i "", 2, true⟩
def q_l_law_judged_right : Cx2 := ⟨"what", exns, exrs⟩
theorem kp_l_law_judged_right (z : Z K mg) : PySem.W.keepIn K (.ref (ga K "_law_judged_right")) = true := by
  obtain ⟨fd, F⟩ := z.c.def_ 22 (d := d_l_law_judged_right) rfl
  exact F.kp
theorem ok_l_law_judged_right (z : Z K mg) : At P w K mg base 63 m_l_law_judged_right (ga K "_law_judged_right") := by
  obtain ⟨fd, F⟩ := z.c.def_ 22 (d := d_l_law_judged_right) rfl
  exact def_ok (k := k_l_law_judged_right) (q := q_l_law_judged_right) (df := b_l_law_judged_right) (C := c_l_law_judged_right) (lvl := 62) (ps := ["deck", "graph", "edges", "lower", "upper"]) F (z.M.wd (by decide +kernel) rfl rfl rfl (fun _ => List.cons_ne_nil _ _) (fun _ => List.cons_ne_nil _ _) rfl rfl (lk_cons ⟨((ok_l_law_subsets z).mono (by omega)), by decide +kernel, kp_l_law_subsets z⟩ (lk_cons ⟨((ok_l_law_flow_right z).mono (by omega)), by decide +kernel, kp_l_law_flow_right z⟩ (lk_cons ⟨((ok_l_law_set_right z).mono (by omega)), by decide +kernel, kp_l_law_set_right z⟩ (lk_cons ⟨((ok_l_law_plain z).mono (by omega)), by decide +kernel, kp_l_law_plain z⟩ (lk_cons ⟨((ok_judge_circulation z).mono (by omega)), by decide +kernel, kp_judge_circulation z⟩ (lk_cons ⟨((ok_l_law_take z).mono (by omega)), by decide +kernel, kp_l_law_take z⟩ (lk_nil))))))) (lk_nil) (lk_nil) xns_ok (rss_ok z (by omega))) ⟨rfl, rfl, rfl, by decide +kernel, rfl, by decide +kernel, by decide +kernel⟩ rfl rfl rfl (by decide +kernel) (F.bindsN fun _ _ _ _ _ _ us hl => match us, hl with | [_, _, _, _, _], _ => rfl)
def k_law : Ck := ⟨["script", "deck", "vertices", "edges", "graph", "scale", "lower", "upper", "sides", "told", "ask", "edge", "low", "side", "item"], defScope (top 31), fun _ => true, [(0, "_law_deck"), (2, "_law_edges"), (11, "circulation"), (1, "_law_take"), (15, "judge_circulation"), (16, "_law_refusal"), (17, "_law_subsets"), (18, "_law_set_right"), (22, "_law_judged_right"), (20, "_law_flow_right")], [], [(3, 0, "Graph")], [], fun i => flds.getD i "", 2, true⟩
def q_law : Cx2 := ⟨"what", exns, exrs⟩
theorem kp_law (z : Z K mg) : PySem.W.keepIn K (.ref (ga K "law")) = true := by
  obtain ⟨fd, F⟩ := z.c.def_ 23 (d := d_law) rfl
  exact F.kp
theorem law_fn (z : Z K mg) {fd : FuncData} (F : FunD K d_law.name d_law.qual d_law.params d_law.body d_law.scope [] [] (ga K "law") fd) : FnOk P w K mg base (L2.CX P w) 64 (ga K "law") fd ["script"] (spOf (tabOf nm K hnd) m_law) :=
  def_fn (k := k_law) (q := q_law) (df := b_law) (C := c_law) (lvl := 63) (ps := ["script"]) F (z.M.wd (by decide +kernel) rfl rfl rfl (fun _ => List.cons_ne_nil _ _) (fun _ => List.cons_ne_nil _ _) rfl rfl (lk_cons ⟨((ok_l_law_deck z).mono (by omega)), by decide +kernel, kp_l_law_deck z⟩ (lk_cons ⟨((ok_l_law_edges z).mono (by omega)), by decide +kernel, kp_l_law_edges z⟩ (lk_cons ⟨((ok_circulation z).mono (by omega)), by decide +kernel, kp_circulation z⟩ (lk_cons ⟨((ok_l_law_take z).mono (by omega)), by decide +kernel, kp_l_law_take z⟩ (lk_cons ⟨((ok_judge_circulation z).mono (by omega)), by decide +kernel, kp_judge_circulation z⟩ (lk_cons ⟨((ok_l_law_refusal z).mono (by omega)), by decide +kernel, kp_l_law_refusal z⟩ (lk_cons ⟨((ok_l_law_subsets z).mono (by omega)), by decide +kernel, kp_l_law_subsets z⟩ (lk_cons ⟨((ok_l_law_set_right z).mono (by omega)), by decide +kernel, kp_l_law_set_right z⟩ (lk_cons ⟨((ok_l_law_judged_right z).mono (by omega)), by decide +kernel, kp_l_law_judged_right z⟩ (lk_cons ⟨((ok_l_law_flow_right z).mono (by omega)), by decide +kernel, kp_l_law_flow_right z⟩ (lk_nil))))))))))) (lk_nil) (lk_cons ⟨_, _, rfl, ((ok_Graph___init__ z).mono (by omega)), by decide +kernel, rfl, He.mkr_ok (z.c.fact 0 rfl)⟩ (lk_nil)) xns_ok (rss_ok z (by omega))) ⟨rfl, rfl, rfl, by decide +kernel, rfl, by decide +kernel, by decide +kernel⟩ rfl rfl rfl (by decide +kernel)
def k_l_wall : Ck := ⟨["k"], defScope (top 0), fun _ => true, [], [], [], [], fun i => flds.getD i "", 2, true⟩
def q_l_wall : Cx2 := ⟨"what", exns, exrs⟩
theorem kp_l_wall (z : Z K mg) : PySem.W.keepIn K (.ref (ga K "_wall")) = true := by
  obtain ⟨fd, F⟩ := z.c.def_ 24 (d := d_l_wall) rfl
  exact F.kp
theorem ok_l_wall (z : Z K mg) : At P w K mg base 3 m_l_wall (ga K "_wall") := by
  obtain ⟨fd, F⟩ := z.c.def_ 24 (d := d_l_wall) rfl
  exact def_ok (k := k_l_wall) (q := q_l_wall) (df := b_l_wall) (C := c_l_wall) (lvl := 2) (ps := ["k"]) F (z.M.wd (by decide +kernel) rfl rfl rfl (fun _ => List.cons_ne_nil _ _) (fun _ => List.cons_ne_nil _ _) rfl rfl (lk_nil) (lk_nil) (lk_nil) xns_ok (rss_ok z (by omega))) ⟨rfl, rfl, rfl, by decide +kernel, rfl, by decide +kernel, by decide +kernel⟩ rfl rfl rfl (by decide +kernel) (F.bindsN fun _ _ _ _ _ _ us hl => match us, hl with | [_], _ => rfl)
def k_Graph_check_edge : Ck := ⟨["self", "edge"], defScope (inClass (top 6) 1), fun _ => true, [(24, "_wall")], [], [], [], fun i => flds.getD i "", 2, true⟩
def q_Graph_check_edge : Cx2 := ⟨"what", exns, exrs⟩
theorem ok_Graph_check_edge (z : Z K mg) : At P w K mg base 4 m_Graph_check_edge (ma K (ga K "Graph") "check_edge") := by
  obtain ⟨fd, F⟩ := z.c.def_ 25 (d := d_Graph_check_edge) rfl
  exact def_ok (k := k_Graph_check_edge) (q := q_Graph_check_edge) (df := b_Graph_check_edge) (C := c_Graph_check_edge) (lvl := 3) (ps := ["self", "edge"]) F (z.M.wd (by decide +kernel) rfl rfl rfl (fun _ => List.cons_ne_nil _ _) (fun _ => List.cons_ne_nil _ _) rfl rfl (lk_cons ⟨((ok_l_wall z).mono (by omega)), by decide +kernel, kp_l_wall z⟩ (lk_nil)) (lk_nil) (lk_nil) xns_ok (rss_ok z (by omega))) ⟨rfl, rfl, rfl, by decide +kernel, rfl, by decide +kernel, by decide +kernel⟩ rfl rfl rfl (by decide +kernel) (F.bindsN fun _ _ _ _ _ _ us hl => match us, hl with | [_, _], _ => rfl)
def k_Graph_degree : Ck := ⟨["self", "vertex"], defScope (inClass (top 6) 2), fun _ => true, [(24, "_wall")], [], [], [], fun i => flds.getD i "", 2, true⟩
def q_Graph_degree : Cx2 := ⟨"what", exns, exrs⟩
theorem ok_Graph_degree (z : Z K mg) : At P w K mg base 4 m_Graph_degree (ma K (ga K "Graph") "degree") := by
  obtain ⟨fd, F⟩ := z.c.def_ 26 (d := d_Graph_degree) rfl
  exact def_ok (k := k_Graph_degree) (q := q_Graph_degree) (df := b_Graph_degree) (C := c_Graph_degree) (lvl := 3) (ps := ["self", "vertex"]) F (z.M.wd (by decide +kernel) rfl rfl rfl (fun _ => List.cons_ne_nil _ _) (fun _ => List.cons_ne_nil _ _) rfl rfl (lk_cons ⟨((ok_l_wall z).mono (by omega)), by decide +kernel, kp_l_wall z⟩ (lk_nil)) (lk_nil) (lk_nil) xns_ok (rss_ok z (by omega))) ⟨rfl, rfl, rfl, by decide +kernel, rfl, by decide +kernel, by decide +kernel⟩ rfl rfl rfl (by decide +kernel) (F.bindsN fun _ _ _ _ _ _ us hl => match us, hl with | [_, _], _ => rfl)
def k_Graph_components : Ck := ⟨["self"], defScope (inClass (top 6) 3), fun _ => true, [(24, "_wall")], [], [], [], fun i => flds.getD i "", 2, true⟩
def q_Graph_components : Cx2 := ⟨"what", exns, exrs⟩
theorem ok_Graph_components (z : Z K mg) : At P w K mg base 4 m_Graph_components (ma K (ga K "Graph") "components") := by
  obtain ⟨fd, F⟩ := z.c.def_ 27 (d := d_Graph_components) rfl
  exact def_ok (k := k_Graph_components) (q := q_Graph_components) (df := b_Graph_components) (C := c_Graph_components) (lvl := 3) (ps := ["self"]) F (z.M.wd (by decide +kernel) rfl rfl rfl (fun _ => List.cons_ne_nil _ _) (fun _ => List.cons_ne_nil _ _) rfl rfl (lk_cons ⟨((ok_l_wall z).mono (by omega)), by decide +kernel, kp_l_wall z⟩ (lk_nil)) (lk_nil) (lk_nil) xns_ok (rss_ok z (by omega))) ⟨rfl, rfl, rfl, by decide +kernel, rfl, by decide +kernel, by decide +kernel⟩ rfl rfl rfl (by decide +kernel) (F.bindsN fun _ _ _ _ _ _ us hl => match us, hl with | [_], _ => rfl)
def k_Graph_is_connected : Ck := ⟨["self"], defScope (inClass (top 6) 4), fun _ => true, [(24, "_wall")], [], [], [], fun i => flds.getD i "", 2, true⟩
def q_Graph_is_connected : Cx2 := ⟨"what", exns, exrs⟩
theorem ok_Graph_is_connected (z : Z K mg) : At P w K mg base 4 m_Graph_is_connected (ma K (ga K "Graph") "is_connected") := by
  obtain ⟨fd, F⟩ := z.c.def_ 28 (d := d_Graph_is_connected) rfl
  exact def_ok (k := k_Graph_is_connected) (q := q_Graph_is_connected) (df := b_Graph_is_connected) (C := c_Graph_is_connected) (lvl := 3) (ps := ["self"]) F (z.M.wd (by decide +kernel) rfl rfl rfl (fun _ => List.cons_ne_nil _ _) (fun _ => List.cons_ne_nil _ _) rfl rfl (lk_cons ⟨((ok_l_wall z).mono (by omega)), by decide +kernel, kp_l_wall z⟩ (lk_nil)) (lk_nil) (lk_nil) xns_ok (rss_ok z (by omega))) ⟨rfl, rfl, rfl, by decide +kernel, rfl, by decide +kernel, by decide +kernel⟩ rfl rfl rfl (by decide +kernel) (F.bindsN fun _ _ _ _ _ _ us hl => match us, hl with | [_], _ => rfl)
def k_Graph_rank_of : Ck := ⟨["self", "edges"], defScope (inClass (top 6) 5), fun _ => true, [(24, "_wall")], [], [], [], fun i => flds.getD i "", 2, true⟩
def q_Graph_rank_of : Cx2 := ⟨"what", exns, exrs⟩
theorem ok_Graph_rank_of (z : Z K mg) : At P w K mg base 4 m_Graph_rank_of (ma K (ga K "Graph") "rank_of") := by
  obtain ⟨fd, F⟩ := z.c.def_ 29 (d := d_Graph_rank_of) rfl
  exact def_ok (k := k_Graph_rank_of) (q := q_Graph_rank_of) (df := b_Graph_rank_of) (C := c_Graph_rank_of) (lvl := 3) (ps := ["self", "edges"]) F (z.M.wd (by decide +kernel) rfl rfl rfl (fun _ => List.cons_ne_nil _ _) (fun _ => List.cons_ne_nil _ _) rfl rfl (lk_cons ⟨((ok_l_wall z).mono (by omega)), by decide +kernel, kp_l_wall z⟩ (lk_nil)) (lk_nil) (lk_nil) xns_ok (rss_ok z (by omega))) ⟨rfl, rfl, rfl, by decide +kernel, rfl, by decide +kernel, by decide +kernel⟩ rfl rfl rfl (by decide +kernel) (F.bindsN fun _ _ _ _ _ _ us hl => match us, hl with | [_, _], _ => rfl)
def k_Graph_deleted : Ck := ⟨["self", "edge"], defScope (inClass (top 6) 6), fun _ => true, [(24, "_wall")], [], [], [], fun i => flds.getD i "", 2, true⟩
def q_Graph_deleted : Cx2 := ⟨"what", exns, exrs⟩
theorem ok_Graph_deleted (z : Z K mg) : At P w K mg base 4 m_Graph_deleted (ma K (ga K "Graph") "deleted") := by
  obtain ⟨fd, F⟩ := z.c.def_ 30 (d := d_Graph_deleted) rfl
  exact def_ok (k := k_Graph_deleted) (q := q_Graph_deleted) (df := b_Graph_deleted) (C := c_Graph_deleted) (lvl := 3) (ps := ["self", "edge"]) F (z.M.wd (by decide +kernel) rfl rfl rfl (fun _ => List.cons_ne_nil _ _) (fun _ => List.cons_ne_nil _ _) rfl rfl (lk_cons ⟨((ok_l_wall z).mono (by omega)), by decide +kernel, kp_l_wall z⟩ (lk_nil)) (lk_nil) (lk_nil) xns_ok (rss_ok z (by omega))) ⟨rfl, rfl, rfl, by decide +kernel, rfl, by decide +kernel, by decide +kernel⟩ rfl rfl rfl (by decide +kernel) (F.bindsN fun _ _ _ _ _ _ us hl => match us, hl with | [_, _], _ => rfl)
def k_Graph_contracted : Ck := ⟨["self", "edge"], defScope (inClass (top 6) 7), fun _ => true, [(24, "_wall")], [], [], [], fun i => flds.getD i "", 2, true⟩
def q_Graph_contracted : Cx2 := ⟨"what", exns, exrs⟩
theorem ok_Graph_contracted (z : Z K mg) : At P w K mg base 4 m_Graph_contracted (ma K (ga K "Graph") "contracted") := by
  obtain ⟨fd, F⟩ := z.c.def_ 31 (d := d_Graph_contracted) rfl
  exact def_ok (k := k_Graph_contracted) (q := q_Graph_contracted) (df := b_Graph_contracted) (C := c_Graph_contracted) (lvl := 3) (ps := ["self", "edge"]) F (z.M.wd (by decide +kernel) rfl rfl rfl (fun _ => List.cons_ne_nil _ _) (fun _ => List.cons_ne_nil _ _) rfl rfl (lk_cons ⟨((ok_l_wall z).mono (by omega)), by decide +kernel, kp_l_wall z⟩ (lk_nil)) (lk_nil) (lk_nil) xns_ok (rss_ok z (by omega))) ⟨rfl, rfl, rfl, by decide +kernel, rfl, by decide +kernel, by decide +kernel⟩ rfl rfl rfl (by decide +kernel) (F.bindsN fun _ _ _ _ _ _ us hl => match us, hl with | [_, _], _ => rfl)
def k_Graph_reversed_edge : Ck := ⟨["self", "edge"], defScope (inClass (top 6) 8), fun _ => true, [(24, "_wall")], [], [], [], fun i => flds.getD i "", 2, true⟩
def q_Graph_reversed_edge : Cx2 := ⟨"what", exns, exrs⟩
theorem ok_Graph_reversed_edge (z : Z K mg) : At P w K mg base 4 m_Graph_reversed_edge (ma K (ga K "Graph") "reversed_edge") := by
  obtain ⟨fd, F⟩ := z.c.def_ 32 (d := d_Graph_reversed_edge) rfl
  exact def_ok (k := k_Graph_reversed_edge) (q := q_Graph_reversed_edge) (df := b_Graph_reversed_edge) (C := c_Graph_reversed_edge) (lvl := 3) (ps := ["self", "edge"]) F (z.M.wd (by decide +kernel) rfl rfl rfl (fun _ => List.cons_ne_nil _ _) (fun _ => List.cons_ne_nil _ _) rfl rfl (lk_cons ⟨((ok_l_wall z).mono (by omega)), by decide +kernel, kp_l_wall z⟩ (lk_nil)) (lk_nil) (lk_nil) xns_ok (rss_ok z (by omega))) ⟨rfl, rfl, rfl, by decide +kernel, rfl, by decide +kernel, by decide +kernel⟩ rfl rfl rfl (by decide +kernel) (F.bindsN fun _ _ _ _ _ _ us hl => match us, hl with | [_, _], _ => rfl)
end
abbrev R : PySem.W.OpenRow := PySem.W.OpenLaw.row PySem.Challenge.rw_treework_k87_whole_circulations
abbrev hk : PySem.W.Hook := hookM 4 fa fn ex
def ob (s : PySem.W.SharedT) : AlM := obsM 4 fa fn ex (HandSHeadRun.getT s)
theorem ob_eq (s : PySem.W.SharedT) : ob s = hk.obs s.abs := obsM_eq (HandSHeadRun.getT_eq s)
def names : List Str := ["__name__", "_wall", "TreeError", "InvalidGraph", "InvalidSet", "Graph", "check_capacities", "check_ends", "open_ways", "way_to", "greatest_stream", "excess", "out_sum", "in_sum", "is_vertex_set", "check_bounds", "circulation", "judge_circulation", "_law_deck", "_law_take", "_law_plain", "_law_edges", "_law_subsets", "_law_balanced", "_law_flow_right", "_law_set_right", "_law_refusal", "_law_judged_right"]
end k87a
namespace k87a
open PySem PySem.Spec PyProof.Rows L2 He Mp k87
theorem run (w : World) : HandSHeadRun.RunEq R (PySem.W.view R.prog [31]) hk ob 4000 names w := by
  intro os
  kernel_rfl
def lvl : Nat := 64
end k87a
/-! Tools for the plain law. -/
namespace Mq
open Mp
@[scoped simp ↓] theorem seq_def (r : SR) (f : Env → SR) : r.seq f = match r with
  | .nx ρ => f ρ
  | .ret d ρ => .ret d ρ
  | .bk ρ => .bk ρ
  | .ct ρ => .ct ρ
  | .exc c d ρ => .exc c d ρ
  | .stuck => .stuck := by cases r <;> (rfl)
@[scoped simp ↓] theorem then_def {α : Type} (r : R α) (f : α → SR) : r.then f = match r with
  | .ok a => f a
  | .exc c d ρ => .exc c d ρ
  | .stuck => .stuck := by cases r <;> (rfl)
@[scoped simp ↓] theorem bind_def {α β : Type} (r : R α) (f : α → R β) : r.bind f = match r with
  | .ok a => f a
  | .exc c d ρ => .exc c d ρ
  | .stuck => .stuck := by cases r <;> (rfl)
@[scoped simp] theorem seq_nx {ρ : Env} {f : Env → SR} : (SR.nx ρ).seq f = f ρ := (rfl)
@[scoped simp] theorem seq_ret {d : D} {ρ : Env} {f : Env → SR} : (SR.ret d ρ).seq f = .ret d ρ := (rfl)
@[scoped simp] theorem seq_exc {c : Nat} {d : D} {ρ : Env} {f : Env → SR} : (SR.exc c d ρ).seq f = .exc c d ρ := (rfl)
@[scoped simp] theorem then_ok {α : Type} {a : α} {f : α → SR} : (R.ok a).then f = f a := (rfl)
@[scoped simp] theorem then_exc {α : Type} {c : Nat} {d : D} {ρ : Env} {f : α → SR} : (R.exc c d ρ).then f = .exc c d ρ := (rfl)
@[scoped simp] theorem bind_ok {α β : Type} {a : α} {f : α → R β} : (R.ok a).bind f = f a := (rfl)
@[scoped simp] theorem bind_exc {α β : Type} {c : Nat} {d : D} {ρ : Env} {f : α → R β} : (R.exc c d ρ).bind f = .exc c d ρ := (rfl)
/-- a loop that goes through, by an invariant over the turns -/
theorem loop_inv {turn : D → Env → SR} (I : Nat → Env → Prop) : ∀ {xs : List D} {ρ : Env} (i : Nat), I i ρ → (∀ j x ρ, xs[j]? = some x → I (i + j) ρ → ∃ ρ', turn x ρ = .nx ρ' ∧ I (i + j + 1) ρ') → ∃ ρ', loopF turn xs ρ = .nx ρ' ∧ I (i + xs.length) ρ'
  | [], ρ, i, h, _ => ⟨ρ, rfl, h⟩
  | x :: xs, ρ, i, h, k => by
    obtain ⟨ρ1, e1, h1⟩ := k 0 x ρ rfl h
    obtain ⟨ρ2, e2, h2⟩ := loop_inv I (xs := xs) (i + 1) h1 fun j y r hy hI => by
      have e : i + 1 + j = i + (j + 1) := by omega
      rw [e] at hI ⊢
      exact k (j + 1) y r hy hI
    refine ⟨ρ2, ?_, ?_⟩
    · unfold loopF
      rw [e1]
      exact e2
    · have e : i + (x :: xs).length = i + 1 + xs.length := by simp; omega
      rw [e]
      exact h2
/-- a comprehension whose turns leave the slots alone -/
theorem comp_map {turn : D → Env → R (List D × Option Env)} {g : D → List D} {ρ : Env} : ∀ {xs : List D}, (∀ x ∈ xs, turn x ρ = .ok (g x, none)) → compL turn xs ρ none = .ok (xs.flatMap g, none)
  | [], _ => rfl
  | x :: xs, k => by
    unfold compL
    rw [show now ρ none = ρ from rfl, k x (by simp)]
    simp only [R.calm, R.bind, orE]
    rw [comp_map fun y hy => k y (by simp [hy])]
    rfl
end Mq
/-! The denotation's equations, for simp. -/
namespace Mq
open Mp
@[scoped simp] theorem dP_var (C : Cfg) (i) (ρ : Env) : dP C (.var i) ρ = match slot ρ i with
    | .gone => .stuck
    | _ => .ok (.pl i [], none) := (rfl)
@[scoped simp] theorem dP_fld (C : Cfg) (p) (f) (ρ : Env) : dP C (.fld p f) ρ = (dP C p ρ).bind fun (a, o) => match a.rd (now ρ o) with
    | none => .stuck
    | some d => match d with
      | .ins _ _ fs vs => match fldN f fs with
        | none => .stuck
        | some n => match vs[n]? with
          | none => .stuck
          | some c => match sh c with
            | true => .ok (.tm c, o)
            | false => match a, kids d with
              | .pl i π, some _ => .ok (.pl i (π ++ [n]), o)
              | _, _ => .stuck
      | _ => .stuck := (rfl)
@[scoped simp] theorem dP_ix (C : Cfg) (p) (e) (ρ : Env) : dP C (.ix p e) ρ = (dP C p ρ).bind fun (a, o) => (dE C e (now ρ o)).bind fun (k, o2) => match a.firm || o2.isNone with
    | false => .stuck
    | true => match a.rd (now (now ρ o) o2) with
      | none => .stuck
      | some d => match itemN d k with
        | none => .stuck
        | some n => match (kidsAny d)[n]? with
          | none => .stuck
          | some c => match sh c with
            | true => .ok (.tm c, orE o2 o)
            | false => match a, kids d with
              | .pl i π, some _ => .ok (.pl i (π ++ [n]), orE o2 o)
              | _, _ => .stuck := (rfl)
@[scoped simp] theorem dO_pl (C : Cfg) (p) (ρ : Env) : dO C (.pl p) ρ = dP C p ρ := (rfl)
@[scoped simp] theorem dO_tm (C : Cfg) (e) (ρ : Env) : dO C (.tm e) ρ = (dE C e ρ).bind fun (d, o) => .ok (.tm d, o) := (rfl)
@[scoped simp] theorem dOs_nil (C : Cfg)  (u0 : Env) : dOs C .nil u0 = .ok ([], none) := (rfl)
@[scoped simp] theorem dOs_cons (C : Cfg) (a) (as) (ρ : Env) : dOs C (.cons a as) ρ = (dO C a ρ).bind fun (x, o) => (dOs C as (now ρ o)).bind fun (xs, o2) => match x.firm || o2.isNone with
    | false => .stuck
    | true => .ok (x :: xs, orE o2 o) := (rfl)
@[scoped simp] theorem dEs_nil (C : Cfg)  (u0 : Env) : dEs C .nil u0 = .ok ([], none) := (rfl)
@[scoped simp] theorem dEs_cons (C : Cfg) (e) (es) (ρ : Env) : dEs C (.cons e es) ρ = (dE C e ρ).bind fun (x, o) => (dEs C es (now ρ o)).bind fun (xs, o2) => .ok (x :: xs, orE o2 o) := (rfl)
@[scoped simp] theorem dT_tr (C : Cfg) (a) (ρ : Env) : dT C (.tr a) ρ = (dO C a ρ).bind fun (x, o) => match x.rd (now ρ o) with
    | none => .stuck
    | some d => match truth d with
      | some b => .ok (b, o)
      | none => .stuck := (rfl)
@[scoped simp] theorem dT_cmp (C : Cfg) (op) (a) (b) (ρ : Env) : dT C (.cmp op a b) ρ = (dO C a ρ).bind fun (x, o1) => (dO C b (now ρ o1)).bind fun (y, o2) => (op2 (cmpD op) x y o1 o2 ρ).bind fun (d, o) => match d with
    | .bl b => .ok (b, o)
    | _ => .stuck := (rfl)
@[scoped simp] theorem dT_chain (C : Cfg) (op) (op') (a) (b) (c) (ρ : Env) : dT C (.chain op op' a b c) ρ = (dO C a ρ).bind fun (x, o1) => (dO C b (now ρ o1)).bind fun (y, o2) => (midD y (now (now ρ o1) o2)).bind fun y' => (op2 (cmpD op) x y o1 o2 ρ).bind fun (d, o) => match d with
    | .bl false => .ok (false, o)
    | .bl true => (dO C c (now ρ o)).bind fun (z, o3) => (op2 (cmpD op') (.tm y') z o o3 ρ).bind fun (d', o') => match d' with
      | .bl b => .ok (b, o')
      | _ => .stuck
    | _ => .stuck := (rfl)
@[scoped simp] theorem dT_and (C : Cfg) (a) (b) (ρ : Env) : dT C (.and a b) ρ = (dT C a ρ).bind fun (x, o) => match x with
    | false => .ok (false, o)
    | true => (dT C b (now ρ o)).bind fun (y, o2) => .ok (y, orE o2 o) := (rfl)
@[scoped simp] theorem dT_or (C : Cfg) (a) (b) (ρ : Env) : dT C (.or a b) ρ = (dT C a ρ).bind fun (x, o) => match x with
    | true => .ok (true, o)
    | false => (dT C b (now ρ o)).bind fun (y, o2) => .ok (y, orE o2 o) := (rfl)
@[scoped simp] theorem dT_not (C : Cfg) (a) (ρ : Env) : dT C (.not a) ρ = (dT C a ρ).bind fun (x, o) => .ok (!x, o) := (rfl)
@[scoped simp] theorem dE_non (C : Cfg)  (u0 : Env) : dE C .non u0 = .ok (.non, none) := (rfl)
@[scoped simp] theorem dE_bl (C : Cfg) (b) (u0 : Env) : dE C (.bl b) u0 = .ok (.bl b, none) := (rfl)
@[scoped simp] theorem dE_int (C : Cfg) (i) (u0 : Env) : dE C (.int i) u0 = .ok (.int i, none) := (rfl)
@[scoped simp] theorem dE_str (C : Cfg) (s) (u0 : Env) : dE C (.str s) u0 = .ok (.str s, none) := (rfl)
@[scoped simp] theorem dE_glob (C : Cfg) (k) (u0 : Env) : dE C (.glob k) u0 = .ok (C.gl k, none) := (rfl)
@[scoped simp] theorem dE_rd (C : Cfg) (p) (ρ : Env) : dE C (.rd p) ρ = (dP C p ρ).bind fun (a, o) => match a with
    | .tm d => .ok (d, o)
    | .pl i π => (keep (now ρ o) i π).bind fun (d, o2) => .ok (d, orE o2 o) := (rfl)
@[scoped simp] theorem dE_mv (C : Cfg) (i) (ρ : Env) : dE C (.mv i) ρ = match slot ρ i with
    | .gone => .stuck
    | d => match sh d with
      | true => .ok (d, none)
      | false => .ok (d, some (ρ.set i .gone)) := (rfl)
@[scoped simp] theorem dE_frz (C : Cfg) (e) (ρ : Env) : dE C (.frz e) ρ = (dE C e ρ).bind fun (d, o) => match fzable d with
    | true => .ok (fz d, o)
    | false => .stuck := (rfl)
@[scoped simp] theorem dE_bin (C : Cfg) (op) (a) (b) (ρ : Env) : dE C (.bin op a b) ρ = (dO C a ρ).bind fun (x, o1) => (dO C b (now ρ o1)).bind fun (y, o2) => op2 (binD op) x y o1 o2 ρ := (rfl)
@[scoped simp] theorem dE_neg (C : Cfg) (a) (ρ : Env) : dE C (.neg a) ρ = (dO C a ρ).bind fun (x, o) => op1 negD x o ρ := (rfl)
@[scoped simp] theorem dE_inv (C : Cfg) (a) (ρ : Env) : dE C (.inv a) ρ = (dO C a ρ).bind fun (x, o) => op1 invD x o ρ := (rfl)
@[scoped simp] theorem dE_cmp (C : Cfg) (op) (a) (b) (ρ : Env) : dE C (.cmp op a b) ρ = (dO C a ρ).bind fun (x, o1) => (dO C b (now ρ o1)).bind fun (y, o2) => op2 (cmpD op) x y o1 o2 ρ := (rfl)
@[scoped simp] theorem dE_chain (C : Cfg) (op) (op') (a) (b) (c) (ρ : Env) : dE C (.chain op op' a b c) ρ = (dO C a ρ).bind fun (x, o1) => (dO C b (now ρ o1)).bind fun (y, o2) => (midD y (now (now ρ o1) o2)).bind fun y' => (op2 (cmpD op) x y o1 o2 ρ).bind fun (d, o) => match d with
    | .bl false => .ok (.bl false, o)
    | .bl true => (dO C c (now ρ o)).bind fun (z, o3) => (op2 (cmpD op') (.tm y') z o o3 ρ).bind fun (d', o') => .ok (d', o')
    | _ => .stuck := (rfl)
@[scoped simp] theorem dE_andv (C : Cfg) (a) (b) (ρ : Env) : dE C (.andv a b) ρ = (dE C a ρ).bind fun (x, o) => match x with
    | .bl false => .ok (.bl false, o)
    | .bl true => (dE C b (now ρ o)).bind fun (y, o2) => .ok (y, orE o2 o)
    | _ => .stuck := (rfl)
@[scoped simp] theorem dE_orv (C : Cfg) (a) (b) (ρ : Env) : dE C (.orv a b) ρ = (dE C a ρ).bind fun (x, o) => match x with
    | .bl true => .ok (.bl true, o)
    | .bl false => (dE C b (now ρ o)).bind fun (y, o2) => .ok (y, orE o2 o)
    | _ => .stuck := (rfl)
@[scoped simp] theorem dE_notv (C : Cfg) (a) (ρ : Env) : dE C (.notv a) ρ = (dO C a ρ).bind fun (x, o) => op1 notD x o ρ := (rfl)
@[scoped simp] theorem dE_ife (C : Cfg) (t) (a) (b) (ρ : Env) : dE C (.ife t a b) ρ = (dT C t ρ).bind fun (x, o) => match x with
    | true => (dE C a (now ρ o)).bind fun (y, o2) => .ok (y, orE o2 o)
    | false => (dE C b (now ρ o)).bind fun (y, o2) => .ok (y, orE o2 o) := (rfl)
@[scoped simp] theorem dE_sub (C : Cfg) (a) (i) (ρ : Env) : dE C (.sub a i) ρ = (dO C a ρ).bind fun (x, o1) => (dO C i (now ρ o1)).bind fun (y, o2) => op2 itemD x y o1 o2 ρ := (rfl)
@[scoped simp] theorem dE_slc (C : Cfg) (a) (lo) (hi) (k) (ρ : Env) : dE C (.slc a lo hi k) ρ = (dO C a ρ).bind fun (x, o1) => (dEs C lo (now ρ o1)).bind fun (l, o2) => match optI l with
    | none => .stuck
    | some l => (dEs C hi (now (now ρ o1) o2)).bind fun (h, o3) => match optI h with
      | none => .stuck
      | some h => match x.firm || (o2.isNone && o3.isNone) with
        | false => .stuck
        | true => match x.rd (now (now (now ρ o1) o2) o3) with
          | none => .stuck
          | some d => ofO (cutD d l h) (orE o3 (orE o2 o1)) := (rfl)
@[scoped simp] theorem dE_rev (C : Cfg) (a) (ρ : Env) : dE C (.rev a) ρ = (dO C a ρ).bind fun (x, o) => op1 revD x o ρ := (rfl)
@[scoped simp] theorem dE_lst (C : Cfg) (es) (ρ : Env) : dE C (.lst es) ρ = (dEs C es ρ).bind fun (xs, o) => if xs.length ≤ line then .ok (.lst true xs, o) else .stuck := (rfl)
@[scoped simp] theorem dE_tup (C : Cfg) (es) (ρ : Env) : dE C (.tup es) ρ = (dEs C es ρ).bind fun (xs, o) => if xs.length ≤ line then .ok (.tup xs, o) else .stuck := (rfl)
@[scoped simp] theorem dE_dd1 (C : Cfg) (ke) (ve) (ρ : Env) : dE C (.dd1 ke ve) ρ = (dE C ke ρ).bind fun (x, o) => (dE C ve (now ρ o)).bind fun (y, o2) => match keyOk true x with
    | true => .ok (.dct true true [x] [y], orE o2 o)
    | false => .stuck := (rfl)
@[scoped simp] theorem dE_dnew (C : Cfg) (k) (u0 : Env) : dE C (.dnew k) u0 = .ok (.dct true k [] [], none) := (rfl)
@[scoped simp] theorem dE_blt (C : Cfg) (b) (os) (ρ : Env) : dE C (.blt b os) ρ = (dOs C os ρ).bind fun (xs, o) => match rdL (now ρ o) xs with
    | none => .stuck
    | some ds => ofO (blD b ds) o := (rfl)
@[scoped simp] theorem dE_call (C : Cfg) (f) (os) (ρ : Env) : dE C (.call f os) ρ = (dOs C os ρ).bind fun (xs, o) => runF (C.fn f) xs (now ρ o) o := (rfl)
@[scoped simp] theorem dE_make (C : Cfg) (f) (c) (z) (os) (ρ : Env) : dE C (.make f c z os) ρ = (dOs C os ρ).bind fun (xs, o) => match takeL xs (now ρ o) with
    | none => .stuck
    | some (ds, bs, o1) => match C.fn f (.ins true c [] [] :: ds) with
      | .ok .non (x :: outs) => match z with
        | true => match fzable x with
          | true => .ok (fz x, given bs outs (now (now ρ o) o1) (orE o1 o))
          | false => .stuck
        | false => .ok (x, given bs outs (now (now ρ o) o1) (orE o1 o))
      | .ok _ _ => .stuck
      | .exc c d => .exc c d (now (now ρ o) o1)
      | .stuck => .stuck := (rfl)
@[scoped simp] theorem dE_meth (C : Cfg) (f) (c) (a) (os) (ρ : Env) : dE C (.meth f c a os) ρ = (dO C a ρ).bind fun (x, o) => match x.rd (now ρ o) with
    | some (.ins _ c' _ _) => match decide (c = c') with
      | true => (dOs C os (now ρ o)).bind fun (xs, o2) => match x.firm || o2.isNone with
        | false => .stuck
        | true => runF (C.fn f) (x :: xs) (now (now ρ o) o2) (orE o2 o)
      | false => .stuck
    | _ => .stuck := (rfl)
@[scoped simp] theorem dE_bm (C : Cfg) (m) (p) (es) (ρ : Env) : dE C (.bm m p es) ρ = (dP C p ρ).bind fun (a, o) => match a with
    | .tm _ => .stuck
    | .pl i π => match (getS (now ρ o) i π).bind bmTy with
      | none => .stuck
      | some t => match decide (t = bmFor m) with
        | false => .stuck
        | true => (dEs C es (now ρ o)).bind fun (xs, o2) => match a.firm || o2.isNone with
          | false => .stuck
          | true => match getS (now (now ρ o) o2) i π with
            | none => .stuck
            | some d => match bmD m d xs with
              | some (y, d') => .ok (y, some (setS (now (now ρ o) o2) i π d'))
              | none => .stuck := (rfl)
@[scoped simp] theorem dE_fldv (C : Cfg) (a) (f) (ρ : Env) : dE C (.fldv a f) ρ = (dO C a ρ).bind fun (x, o) => op1 (fldS f) x o ρ := (rfl)
@[scoped simp] theorem dE_rng (C : Cfg) (os) (ρ : Env) : dE C (.rng os) ρ = (dOs C os ρ).bind fun (xs, o) => match rdL (now ρ o) xs with
    | none => .stuck
    | some ds => match rngD ds with
      | none => .stuck
      | some r => if r.length ≤ line then .ok (.lst true r, o) else .stuck := (rfl)
@[scoped simp] theorem dCs_nil (C : Cfg)  (u0 : Env) : dCs C .nil u0 = .ok (true, none) := (rfl)
@[scoped simp] theorem dCs_one (C : Cfg) (t) (ρ : Env) : dCs C (.one t) ρ = dT C t ρ := (rfl)
@[scoped simp] theorem dI_seq (C : Cfg) (a) (ρ : Env) : dI C (.seq a) ρ = (dO C a ρ).bind fun (x, o) => (keepO ρ o x).bind fun (d, o) => match seqOf d with
    | some xs => match shL xs with
      | true => .ok (xs, o)
      | false => .stuck
    | none => .stuck := (rfl)
@[scoped simp] theorem dI_lock (C : Cfg) (i) (ρ : Env) : dI C (.lock i) ρ = match seqOf (slot ρ i) with
    | some xs => match shL xs with
      | true => .ok (xs, none)
      | false => match fzableL xs with
        | true => .ok (fzL xs, some (ρ.set i (fz (slot ρ i))))
        | false => .stuck
    | none => .stuck := (rfl)
@[scoped simp] theorem dI_rng1 (C : Cfg) (a) (ρ : Env) : dI C (.rng1 a) ρ = (dO C a ρ).bind fun (x, o) => match x.rd (now ρ o) with
    | some (.int j) => R.of ((rngD [.int j]).map fun r => (r, o))
    | _ => .stuck := (rfl)
@[scoped simp] theorem dI_rng2 (C : Cfg) (a) (b) (ρ : Env) : dI C (.rng2 a b) ρ = (dO C a ρ).bind fun (x, o1) => (dO C b (now ρ o1)).bind fun (y, o2) => match x.firm || o2.isNone with
    | false => .stuck
    | true => match x.rd (now (now ρ o1) o2), y.rd (now (now ρ o1) o2) with
      | some (.int i), some (.int j) => R.of ((rngD [.int i, .int j]).map fun r => (r, orE o2 o1))
      | _, _ => .stuck := (rfl)
@[scoped simp] theorem dI_rng3 (C : Cfg) (a) (b) (c) (ρ : Env) : dI C (.rng3 a b c) ρ = (dO C a ρ).bind fun (x, o1) => (dO C b (now ρ o1)).bind fun (y, o2) => (dO C c (now (now ρ o1) o2)).bind fun (z, o3) => match (x.firm && y.firm) || (o2.isNone && o3.isNone) with
    | false => .stuck
    | true => match x.rd (now (now (now ρ o1) o2) o3), y.rd (now (now (now ρ o1) o2) o3), z.rd (now (now (now ρ o1) o2) o3) with
      | some (.int i), some (.int j), some (.int k) => R.of ((rngD [.int i, .int j, .int k]).map fun r => (r, orE o3 (orE o2 o1)))
      | _, _, _ => .stuck := (rfl)
@[scoped simp] theorem dI_enum (C : Cfg) (a) (ρ : Env) : dI C (.enum a) ρ = (dO C a ρ).bind fun (x, o) => (keepO ρ o x).bind fun (d, o) => match d with
    | .lst _ xs => match shL xs with
      | true => .ok (enumL 0 xs, o)
      | false => .stuck
    | _ => .stuck := (rfl)
@[scoped simp] theorem dI_zip (C : Cfg) (a) (b) (ρ : Env) : dI C (.zip a b) ρ = (dO C a ρ).bind fun (x, o) => (keepO ρ o x).bind fun (d, o) => (dO C b (now ρ o)).bind fun (y, o2) => (keepO (now ρ o) o2 y).bind fun (e, o2) => R.of ((zipD d e).map fun r => (r, orE o2 o)) := (rfl)
@[scoped simp] theorem dI_items (C : Cfg) (a) (ρ : Env) : dI C (.items a) ρ = (dO C a ρ).bind fun (x, o) => (keepO ρ o x).bind fun (d, o) => match d with
    | .dct _ _ ks vs => .ok (zipL ks vs, o)
    | _ => .stuck := (rfl)
@[scoped simp] theorem dI_keys (C : Cfg) (a) (ρ : Env) : dI C (.keys a) ρ = (dO C a ρ).bind fun (x, o) => (keepO ρ o x).bind fun (d, o) => match d with
    | .dct _ _ ks _ => .ok (ks, o)
    | _ => .stuck := (rfl)
@[scoped simp] theorem dI_vals (C : Cfg) (a) (ρ : Env) : dI C (.vals a) ρ = (dO C a ρ).bind fun (x, o) => (keepO ρ o x).bind fun (d, o) => match d with
    | .dct _ _ _ vs => .ok (vs, o)
    | _ => .stuck := (rfl)
@[scoped simp] theorem dI_revs (C : Cfg) (a) (ρ : Env) : dI C (.revs a) ρ = (dO C a ρ).bind fun (x, o) => (keepO ρ o x).bind fun (d, o) => match seqOf d with
    | some xs => .ok (xs.reverse, o)
    | none => .stuck := (rfl)
@[scoped simp] theorem dXs_ret (C : Cfg) (c : Nat) (d : D) (e) (ρ : Env) : dXs C c d (.ret e) ρ = match dXe C c d e with
    | some x => .ret x ρ
    | none => .stuck := (rfl)
@[scoped simp] theorem dXs_app (C : Cfg) (c : Nat) (d : D) (i) (e) (ρ : Env) : dXs C c d (.app i e) ρ = match dXe C c d e, slot ρ i with
    | some x, .lst true xs => if decide (xs.length < line) then .nx (ρ.set i (.lst true (xs ++ [x]))) else .stuck
    | _, _ => .stuck := (rfl)
@[scoped simp] theorem dXs_iff (C : Cfg) (c : Nat) (d : D) (t) (e) (r) (ρ : Env) : dXs C c d (.iff t e r) ρ = match dXt C c t with
    | true => match dXe C c d e with
      | some x => .ret x ρ
      | none => .stuck
    | false => dXs C c d r ρ := (rfl)
@[scoped simp] theorem dXs_pass (C : Cfg) (c : Nat) (d : D)  (ρ : Env) : dXs C c d .pass ρ = .nx ρ := (rfl)
@[scoped simp] theorem dS_asg (C : Cfg) (t) (e) (ρ : Env) : dS C (.asg t e) ρ = (dE C e ρ).then fun (d, o) => match bindT t d (now ρ o) with
    | some ρ' => .nx ρ'
    | none => .stuck := (rfl)
@[scoped simp] theorem dS_par (C : Cfg) (i) (j) (a) (b) (ρ : Env) : dS C (.par i j a b) ρ = (dE C a ρ).then fun (x, o) => (dE C b (now ρ o)).then fun (y, o2) => .nx (((now (now ρ o) o2).set i x).set j y) := (rfl)
@[scoped simp] theorem dS_sfld (C : Cfg) (p) (f) (e) (ρ : Env) : dS C (.sfld p f e) ρ = (dE C e ρ).then fun (x, o) => (dP C p (now ρ o)).then fun (a, o2) => match a with
    | .tm _ => .stuck
    | .pl i π => storeF (now (now ρ o) o2) i π f x := (rfl)
@[scoped simp] theorem dS_six (C : Cfg) (p) (k) (e) (ρ : Env) : dS C (.six p k e) ρ = (dE C e ρ).then fun (x, o) => (dP C p (now ρ o)).then fun (a, o2) => (dE C k (now (now ρ o) o2)).then fun (y, o3) => match a.firm || o3.isNone with
    | false => .stuck
    | true => match a with
      | .tm _ => .stuck
      | .pl i π => storeI (now (now (now ρ o) o2) o3) i π y x := (rfl)
@[scoped simp] theorem dS_aug (C : Cfg) (i) (op) (e) (ρ : Env) : dS C (.aug i op e) ρ = match slot ρ i with
    | .int a => (dE C e ρ).then fun (y, o) => match y with
      | .int b => match binI op a b with
        | some d => .nx ((now ρ o).set i d)
        | none => .stuck
      | _ => .stuck
    | _ => .stuck := (rfl)
@[scoped simp] theorem dS_augix (C : Cfg) (p) (k) (op) (e) (ρ : Env) : dS C (.augix p k op e) ρ = (dP C p ρ).then fun (a, o) => (dE C k (now ρ o)).then fun (y, o2) => match a with
    | .tm _ => .stuck
    | .pl i π => match (OV.pl i π).firm || o2.isNone with
      | false => .stuck
      | true => match getS (now (now ρ o) o2) i π with
        | none => .stuck
        | some d => match itemA d y with
          | none => .stuck
          | some u => (dE C e (now (now ρ o) o2)).then fun (z, o3) => match (OV.pl i π).firm || o3.isNone with
            | false => .stuck
            | true => match z with
              | .int v => match binI op u v with
                | some w => storeI (now (now (now ρ o) o2) o3) i π y w
                | none => .stuck
              | _ => .stuck := (rfl)
@[scoped simp] theorem dS_augfld (C : Cfg) (p) (f) (op) (e) (ρ : Env) : dS C (.augfld p f op e) ρ = (dP C p ρ).then fun (a, o) => match a with
    | .tm _ => .stuck
    | .pl i π => match (getS (now ρ o) i π).bind (fldD f) with
      | some (.int u) => (dE C e (now ρ o)).then fun (z, o3) => match a.firm || o3.isNone, z with
        | true, .int v => match binI op u v with
          | some w => storeF (now (now ρ o) o3) i π f w
          | none => .stuck
        | _, _ => .stuck
      | _ => .stuck := (rfl)
@[scoped simp] theorem dS_ex (C : Cfg) (e) (ρ : Env) : dS C (.ex e) ρ = (dE C e ρ).then fun (_, o) => .nx (now ρ o) := (rfl)
@[scoped simp] theorem dS_iff (C : Cfg) (t) (a) (b) (ρ : Env) : dS C (.iff t a b) ρ = (dT C t ρ).then fun (x, o) => match x with
    | true => dSs C a (now ρ o)
    | false => dSs C b (now ρ o) := (rfl)
@[scoped simp] theorem dS_with_ (C : Cfg) (j) (i) (e) (body) (ρ : Env) : dS C (.with_ j i e body) ρ = (dP C (.ix (.var i) e) ρ).then fun (a, o) => match a with
    | .tm _ => .stuck
    | .pl i' π => match takeW (now ρ o) j i i' π with
      | none => .stuck
      | some (n, ys) => giveW (now ρ o) j i n (dSs C body (((now ρ o).set i .gone).set j (.lst true ys))) := (rfl)
@[scoped simp] theorem dS_whl (C : Cfg) (t) (body) (ρ : Env) : dS C (.whl t body) ρ = loopW (dT C t) (dSs C body) C.fuel ρ := (rfl)
@[scoped simp] theorem dS_ret (C : Cfg) (e) (ρ : Env) : dS C (.ret e) ρ = (dE C e ρ).then fun (d, o) => .ret d (now ρ o) := (rfl)
@[scoped simp] theorem dS_retN (C : Cfg)  (ρ : Env) : dS C .retN ρ = .ret .non ρ := (rfl)
@[scoped simp] theorem dS_rs (C : Cfg) (c) (es) (ρ : Env) : dS C (.rs c es) ρ = (dEs C es ρ).then fun (xs, o) => match xs with
    | [.str z] => match decide (z.length ≤ 1000) with
      | true => .exc c (.str z) (now ρ o)
      | false => .stuck
    | _ => .stuck := (rfl)
@[scoped simp] theorem dS_try_ (C : Cfg) (body) (hs) (ρ : Env) : dS C (.try_ body hs) ρ = match dSs C body ρ with
    | .exc c d ρ' => dHs C hs c d ρ'
    | r => r := (rfl)
@[scoped simp] theorem dS_brk (C : Cfg)  (ρ : Env) : dS C .brk ρ = .bk ρ := (rfl)
@[scoped simp] theorem dS_cnt (C : Cfg)  (ρ : Env) : dS C .cnt ρ = .ct ρ := (rfl)
@[scoped simp] theorem dS_pass (C : Cfg)  (ρ : Env) : dS C .pass ρ = .nx ρ := (rfl)
@[scoped simp] theorem dS_never (C : Cfg)  (u0 : Env) : dS C .never u0 = .stuck := (rfl)
@[scoped simp] theorem dSs_nil (C : Cfg)  (ρ : Env) : dSs C .nil ρ = .nx ρ := (rfl)
@[scoped simp] theorem dSs_cons (C : Cfg) (s) (ss) (ρ : Env) : dSs C (.cons s ss) ρ = (dS C s ρ).seq fun ρ' => dSs C ss ρ' := (rfl)
@[scoped simp] theorem dHs_nil (C : Cfg)  (c) (d) (ρ : Env) : dHs C .nil c d ρ = .exc c d ρ := (rfl)
@[scoped simp] theorem dHs_cons (C : Cfg) (c') (i) (suite) (hs) (c) (d) (ρ : Env) : dHs C (.cons c' i suite hs) c d ρ = match C.sub c c' with
    | true => match i with
      | some i => (dXs C c d suite (ρ.set i .gone)).mapE fun r => r.set i .gone
      | none => dXs C c d suite ρ
    | false => dHs C hs c d ρ := (rfl)
@[scoped simp] theorem now_none (ρ : Env) : now ρ none = ρ := (rfl)
@[scoped simp] theorem now_some (ρ r : Env) : now ρ (some r) = r := (rfl)
@[scoped simp] theorem orE_none (o : Option Env) : orE none o = o := (rfl)
@[scoped simp] theorem orE_some (r : Env) (o : Option Env) : orE (some r) o = some r := (rfl)
@[scoped simp] theorem firm_var (i : Nat) : (OV.pl i []).firm = true := (rfl)
@[scoped simp] theorem firm_tm (d : D) : (OV.tm d).firm = true := (rfl)
@[scoped simp] theorem firm_path (i n : Nat) (π : List Nat) : (OV.pl i (n :: π)).firm = false := (rfl)
@[scoped simp] theorem rd_pl (ρ : Env) (i : Nat) (π : List Nat) : (OV.pl i π).rd ρ = getS ρ i π := (rfl)
@[scoped simp] theorem rd_tm (ρ : Env) (d : D) : (OV.tm d).rd ρ = soft d := (rfl)
@[scoped simp] theorem slot_zero (d : D) (ρ : Env) : slot (d :: ρ) 0 = d := (rfl)
@[scoped simp] theorem slot_succ (d : D) (ρ : Env) (n : Nat) : slot (d :: ρ) (n + 1) = slot ρ n := (rfl)
@[scoped simp] theorem ofO_some (d : D) (o : Option Env) : ofO (some d) o = .ok (d, o) := (rfl)
@[scoped simp] theorem ofO_none (o : Option Env) : ofO none o = .stuck := (rfl)
@[scoped simp] theorem Rof_some {α : Type} (a : α) : R.of (some a) = .ok a := (rfl)
theorem shL_map_int : ∀ xs : List Int, shL (xs.map D.int) = true
  | [] => rfl
  | _ :: xs => by simp [shL, sh, shL_map_int xs]
end Mq
namespace Mq
open Mp
@[scoped simp] theorem getP_nil (d : D) : getP d [] = some d := (rfl)
@[scoped simp] theorem getP_cons (d : D) (n : Nat) (π : List Nat) : getP d (n :: π) = match kids d with
    | some xs => match xs[n]? with
      | some c => getP c π
      | none => none
    | none => none := by cases d <;> rfl
@[scoped simp] theorem setP_nil (d x : D) : setP d [] x = x := by cases d <;> rfl
@[scoped simp] theorem setP_cons (d : D) (n : Nat) (π : List Nat) (x : D) : setP d (n :: π) x = match kids d with
    | some xs => match xs[n]? with
      | some c => withKids d (xs.set n (setP c π x))
      | none => d
    | none => d := by cases d <;> rfl
@[scoped simp] theorem kids_lst (xs : List D) : kids (.lst true xs) = some xs := (rfl)
@[scoped simp] theorem kids_lstf (xs : List D) : kids (.lst false xs) = none := (rfl)
@[scoped simp] theorem kids_dct (k ks vs) : kids (.dct true k ks vs) = some vs := (rfl)
@[scoped simp] theorem kids_ins (c fs vs) : kids (.ins true c fs vs) = some vs := (rfl)
@[scoped simp] theorem kids_insf (c fs vs) : kids (.ins false c fs vs) = none := (rfl)
@[scoped simp] theorem withKids_lst (o xs ys) : withKids (.lst o xs) ys = .lst o ys := (rfl)
@[scoped simp] theorem withKids_dct (o k ks vs ys) : withKids (.dct o k ks vs) ys = .dct o k ks ys := (rfl)
@[scoped simp] theorem withKids_ins (o c fs vs ys) : withKids (.ins o c fs vs) ys = .ins o c fs ys := (rfl)
@[scoped simp] theorem sh_non : sh .non = true := (rfl)
@[scoped simp] theorem sh_bl (b) : sh (.bl b) = true := (rfl)
@[scoped simp] theorem sh_int (b) : sh (.int b) = true := (rfl)
@[scoped simp] theorem sh_str (b) : sh (.str b) = true := (rfl)
@[scoped simp] theorem sh_scr (b) : sh (.scr b) = true := (rfl)
@[scoped simp] theorem sh_gone : sh .gone = false := (rfl)
@[scoped simp] theorem sh_tup (xs) : sh (.tup xs) = shL xs := (rfl)
@[scoped simp] theorem sh_lst (o xs) : sh (.lst o xs) = (!o && shL xs) := (rfl)
@[scoped simp] theorem sh_dct (o k ks vs) : sh (.dct o k ks vs) = (!o && shL vs) := (rfl)
@[scoped simp] theorem sh_ins (o c fs vs) : sh (.ins o c fs vs) = (!o && shL vs) := (rfl)
@[scoped simp] theorem shL_nil : shL [] = true := (rfl)
@[scoped simp] theorem shL_cons (x xs) : shL (x :: xs) = (sh x && shL xs) := (rfl)
@[scoped simp] theorem shL_app : ∀ xs ys : List D, shL (xs ++ ys) = (shL xs && shL ys)
  | [], ys => by simp
  | x :: xs, ys => by simp [shL_app xs ys, Bool.and_assoc]
theorem shL_of : ∀ {xs : List D}, (∀ x ∈ xs, sh x = true) → shL xs = true
  | [], _ => rfl
  | x :: xs, h => by rw [shL_cons, h x (by simp), shL_of fun y hy => h y (List.mem_cons_of_mem _ hy)]; rfl
@[scoped simp] theorem shL_map {α : Type} (f : α → D) : ∀ xs : List α, (∀ x, sh (f x) = true) → shL (xs.map f) = true := fun xs h => shL_of (by simp [h])
@[scoped simp] theorem fz_non : fz .non = .non := (rfl)
@[scoped simp] theorem fz_bl (b) : fz (.bl b) = .bl b := (rfl)
@[scoped simp] theorem fz_int (b) : fz (.int b) = .int b := (rfl)
@[scoped simp] theorem fz_str (b) : fz (.str b) = .str b := (rfl)
@[scoped simp] theorem fz_scr (b) : fz (.scr b) = .scr b := (rfl)
@[scoped simp] theorem fz_tup (xs) : fz (.tup xs) = .tup (fzL xs) := (rfl)
@[scoped simp] theorem fz_lst (o xs) : fz (.lst o xs) = .lst false (fzL xs) := (rfl)
@[scoped simp] theorem fz_dct (o k ks vs) : fz (.dct o k ks vs) = .dct false k ks (fzL vs) := (rfl)
@[scoped simp] theorem fz_ins (o c fs vs) : fz (.ins o c fs vs) = .ins false c fs (fzL vs) := (rfl)
@[scoped simp] theorem fzL_nil : fzL [] = [] := (rfl)
@[scoped simp] theorem fzL_cons (x xs) : fzL (x :: xs) = fz x :: fzL xs := (rfl)
theorem fz_shL : ∀ xs : List D, fzL xs = xs.map fz
  | [] => rfl
  | x :: xs => by simp [fz_shL xs]
mutual
theorem fz_of_sh : ∀ d : D, sh d = true → fz d = d
  | .non, _ => rfl | .bl _, _ => rfl | .int _, _ => rfl | .str _, _ => rfl | .scr _, _ => rfl
  | .tup xs, h => by simp at h; simp [fzL_of_sh xs h]
  | .lst o xs, h => by simp at h; simp [fzL_of_sh xs h.2, h.1]
  | .dct o k ks xs, h => by simp at h; simp [fzL_of_sh xs h.2, h.1]
  | .ins o c fs xs, h => by simp at h; simp [fzL_of_sh xs h.2, h.1]
  | .gone, h => by simp at h
theorem fzL_of_sh : ∀ xs : List D, shL xs = true → fzL xs = xs
  | [], _ => rfl
  | x :: xs, h => by simp at h; simp [fz_of_sh x h.1, fzL_of_sh xs h.2]
end
mutual
theorem fzable_of_sh : ∀ d : D, sh d = true → fzable d = true
  | .non, _ => rfl | .bl _, _ => rfl | .int _, _ => rfl | .str _, _ => rfl | .scr _, _ => rfl
  | .tup xs, h => by simp at h; simpa [fzable] using fzableL_of_sh xs h
  | .lst o xs, h => by simp at h; simpa [fzable] using fzableL_of_sh xs h.2
  | .dct o k ks xs, h => by simp at h; simpa [fzable] using fzableL_of_sh xs h.2
  | .ins o c fs xs, h => by simp at h; simpa [fzable] using fzableL_of_sh xs h.2
  | .gone, h => by simp at h
theorem fzableL_of_sh : ∀ xs : List D, shL xs = true → fzableL xs = true
  | [], _ => rfl
  | x :: xs, h => by simp at h; simp [fzableL, fzable_of_sh x h.1, fzableL_of_sh xs h.2]
end
@[scoped simp] theorem fzable_non : fzable .non = true := (rfl)
@[scoped simp] theorem fzable_bl (b) : fzable (.bl b) = true := (rfl)
@[scoped simp] theorem fzable_int (b) : fzable (.int b) = true := (rfl)
@[scoped simp] theorem fzable_str (b) : fzable (.str b) = true := (rfl)
@[scoped simp] theorem fzable_scr (b) : fzable (.scr b) = true := (rfl)
@[scoped simp] theorem fzable_tup (xs) : fzable (.tup xs) = fzableL xs := (rfl)
@[scoped simp] theorem fzable_lst (o xs) : fzable (.lst o xs) = fzableL xs := (rfl)
@[scoped simp] theorem fzable_dct (o k ks xs) : fzable (.dct o k ks xs) = fzableL xs := (rfl)
@[scoped simp] theorem fzable_ins (o c fs xs) : fzable (.ins o c fs xs) = fzableL xs := (rfl)
@[scoped simp] theorem fzableL_nil : fzableL [] = true := (rfl)
@[scoped simp] theorem fzableL_cons (x xs) : fzableL (x :: xs) = (fzable x && fzableL xs) := (rfl)
/-- data without owned or unknown parts (a simp procedure's side condition) -/
theorem fzL_map {α : Type} (f : α → D) (xs : List α) (h : ∀ x, sh (f x) = true) : fzL (xs.map f) = xs.map f := fzL_of_sh _ (shL_map f xs h)
@[scoped simp] theorem soft_non : soft .non = some .non := (rfl)
@[scoped simp] theorem soft_bl (b) : soft (.bl b) = some (.bl b) := (rfl)
@[scoped simp] theorem soft_int (b) : soft (.int b) = some (.int b) := (rfl)
@[scoped simp] theorem soft_str (b) : soft (.str b) = some (.str b) := (rfl)
@[scoped simp] theorem soft_scr (b) : soft (.scr b) = some (.scr b) := (rfl)
@[scoped simp] theorem soft_tup (xs) : soft (.tup xs) = match shL xs with
    | true => some (.tup xs)
    | false => match fzableL xs with
      | true => some (.tup (fzL xs))
      | false => none := (rfl)
@[scoped simp] theorem soft_lst (o xs) : soft (.lst o xs) = match shL xs with
    | true => some (.lst o xs)
    | false => match fzableL xs with
      | true => some (.lst false (fzL xs))
      | false => none := (rfl)
@[scoped simp] theorem soft_dct (o k ks xs) : soft (.dct o k ks xs) = match shL xs with
    | true => some (.dct o k ks xs)
    | false => match fzableL xs with
      | true => some (.dct false k ks (fzL xs))
      | false => none := (rfl)
@[scoped simp] theorem soft_ins (o k ks xs) : soft (.ins o k ks xs) = match shL xs with
    | true => some (.ins o k ks xs)
    | false => match fzableL xs with
      | true => some (.ins false k ks (fzL xs))
      | false => none := (rfl)
@[scoped simp] theorem bind_var (i d ρ) : bindT (.var i) d ρ = some (ρ.set i d) := (rfl)
@[scoped simp] theorem bind_tup (ts xs ρ) : bindT (.tup ts) (.tup xs) ρ = bindT.bindTs ts xs ρ := (rfl)
@[scoped simp] theorem binds_nil (ρ) : bindT.bindTs .nil [] ρ = some ρ := (rfl)
@[scoped simp] theorem binds_cons (t ts x xs ρ) : bindT.bindTs (.cons t ts) (x :: xs) ρ = match bindT t x ρ with
    | some ρ' => bindT.bindTs ts xs ρ'
    | none => none := (rfl)
@[scoped simp] theorem rdL_nil (ρ) : rdL ρ [] = some [] := (rfl)
@[scoped simp] theorem rdL_cons (ρ a as) : rdL ρ (a :: as) = match a.rd ρ, rdL ρ as with
    | some d, some ds => some (d :: ds)
    | _, _ => none := (rfl)
@[scoped simp] theorem takeL_nil (ρ) : takeL [] ρ = some ([], [], none) := (rfl)
@[scoped simp] theorem takeL_cons (a as ρ) : takeL (a :: as) ρ = match takeV ρ a with
  | none => none
  | some (d, b, o1) => match takeL as (now ρ o1) with
    | none => none
    | some (ds, bs, o2) => some (d :: ds, b :: bs, orE o2 o1) := (rfl)
@[scoped simp] theorem outs_nil (ρ) : outsOf [] ρ = [] := (rfl)
@[scoped simp] theorem outs_t (bs d ρ) : outsOf (true :: bs) (d :: ρ) = d :: outsOf bs ρ := (rfl)
@[scoped simp] theorem outs_f (bs d ρ) : outsOf (false :: bs) (d :: ρ) = .gone :: outsOf bs ρ := (rfl)
@[scoped simp] theorem toInts_nil : toInts [] = some [] := (rfl)
@[scoped simp] theorem toInts_cons (i xs) : toInts (.int i :: xs) = match toInts xs with
    | some r => some (i :: r)
    | none => none := (rfl)
@[scoped simp] theorem toInts_map : ∀ xs : List Int, toInts (xs.map D.int) = some xs
  | [] => rfl
  | x :: xs => by simp [toInts_map xs]
@[scoped simp] theorem seqOf_lst (o xs) : seqOf (.lst o xs) = some xs := (rfl)
@[scoped simp] theorem seqOf_tup (xs) : seqOf (.tup xs) = some xs := (rfl)
@[scoped simp] theorem eqD_int (i j) : eqD (.int i) (.int j) = decide (i = j) := (rfl)
@[scoped simp] theorem eqD_str (i j) : eqD (.str i) (.str j) = (i == j) := (rfl)
@[scoped simp] theorem eqD_bl (i j) : eqD (.bl i) (.bl j) = (i == j) := (rfl)
@[scoped simp] theorem eqD_tup (i j) : eqD (.tup i) (.tup j) = eqL i j := (rfl)
@[scoped simp] theorem eqD_lst (a i b j) : eqD (.lst a i) (.lst b j) = eqL i j := (rfl)
@[scoped simp] theorem eqL_nil : eqL [] [] = true := (rfl)
@[scoped simp] theorem eqL_cons (a i b j) : eqL (a :: i) (b :: j) = (eqD a b && eqL i j) := (rfl)
@[scoped simp] theorem okD_int (n i) : okD n (.int i) = true := by cases n <;> rfl
@[scoped simp] theorem okD_bl (n i) : okD n (.bl i) = true := by cases n <;> rfl
@[scoped simp] theorem okD_non (n) : okD n .non = true := by cases n <;> rfl
def strOk (s : PySem.Str) : Bool := s.cps.all fun c => decide (c < 0x110000)
@[scoped simp] theorem okD_str (n s) : okD n (.str s) = strOk s := by cases n <;> rfl
@[scoped simp] theorem okD_tup (n xs) : okD (n + 1) (.tup xs) = okL n xs := (rfl)
@[scoped simp] theorem okD_lst (n o xs) : okD (n + 1) (.lst o xs) = okL n xs := (rfl)
@[scoped simp] theorem okL_nil (n) : okL n [] = true := by cases n <;> rfl
@[scoped simp] theorem okL_cons (n x xs) : okL n (x :: xs) = (okD n x && okL n xs) := by cases n <;> rfl
@[scoped simp] theorem okL_app (n) : ∀ xs ys : List D, okL n (xs ++ ys) = (okL n xs && okL n ys)
  | [], ys => by simp
  | x :: xs, ys => by simp [okL_app n xs ys, Bool.and_assoc]
theorem okL_of (n) : ∀ {xs : List D}, (∀ x ∈ xs, okD n x = true) → okL n xs = true
  | [], _ => by simp
  | x :: xs, h => by rw [okL_cons, h x (by simp), okL_of n fun y hy => h y (List.mem_cons_of_mem _ hy)]; rfl
@[scoped simp] theorem lockI_lock (i ρ) : lockI (.lock i) ρ = ρ.set i .gone := (rfl)
@[scoped simp] theorem lockI_seq (i ρ) : lockI (.seq i) ρ = ρ := (rfl)
@[scoped simp] theorem lockI_rng (i ρ) : lockI (.rng1 i) ρ = ρ := (rfl)
@[scoped simp] theorem lockI_rng2 (i j ρ) : lockI (.rng2 i j) ρ = ρ := (rfl)
@[scoped simp] theorem unlockI_lock (i r ρ) : unlockI (.lock i) r ρ = ρ.set i (slot r i) := (rfl)
@[scoped simp] theorem unlockI_seq (i r ρ) : unlockI (.seq i) r ρ = ρ := (rfl)
@[scoped simp] theorem unlockI_rng (i r ρ) : unlockI (.rng1 i) r ρ = ρ := (rfl)
@[scoped simp] theorem unlockI_rng2 (i j r ρ) : unlockI (.rng2 i j) r ρ = ρ := (rfl)
@[scoped simp] theorem wipe_nil (ρ) : wipe [] ρ = ρ := (rfl)
@[scoped simp] theorem wipe_cons (i r ρ) : wipe (i :: r) ρ = (wipe r ρ).set i .gone := (rfl)
@[scoped simp] theorem unwipe_nil (a ρ) : unwipe [] a ρ = ρ := (rfl)
@[scoped simp] theorem unwipe_cons (i r a ρ) : unwipe (i :: r) a ρ = unwipe r a (ρ.set i (slot a i)) := (rfl)
@[scoped simp] theorem ownOk_nil (ρ) : ownOk [] ρ = true := (rfl)
@[scoped simp] theorem ownOk_cons (i r ρ) : ownOk (i :: r) ρ = ((match slot ρ i with
  | .gone => true
  | d => sh d) && ownOk r ρ) := (rfl)
@[scoped simp] theorem back_none (own) : back own none = none := (rfl)
@[scoped simp] theorem back_some (own r) : back own (some r) = some (wipe own r) := (rfl)
@[scoped simp] theorem compO_none (it own r o) : compO it own r o none = o := (rfl)
@[scoped simp] theorem compO_some (it own r o q) : compO it own r o (some q) = some (unlockI it r (unwipe own (lockI it r) q)) := (rfl)
@[scoped simp] theorem mapE_nx (g ρ) : (SR.nx ρ).mapE g = .nx (g ρ) := (rfl)
@[scoped simp] theorem mapE_ret (g d ρ) : (SR.ret d ρ).mapE g = .ret d (g ρ) := (rfl)
@[scoped simp] theorem mapE_exc (g c d ρ) : (SR.exc c d ρ).mapE g = .exc c d (g ρ) := (rfl)
@[scoped simp] theorem rngL_len (i : Int) : ∀ n : Nat, (rngL i n).length = n
  | 0 => rfl
  | n + 1 => by simp [rngL, rngL_len (i + 1) n]
theorem rngL_get (k : Int) : ∀ (n j : Nat), j < n → (rngL k n)[j]? = some (.int (k + j))
  | n + 1, 0, _ => by simp [rngL]
  | n + 1, j + 1, h => by
    have := rngL_get (k + 1) n j (by omega)
    simp only [rngL, List.getElem?_cons_succ, this]
    simp; omega
theorem rngL_eq (k : Int) : ∀ n : Nat, rngL k n = (List.range n).map fun j : Nat => D.int (k + j) := by
  intro n
  apply List.ext_getElem?
  intro j
  by_cases h : j < n
  · rw [rngL_get k n j h]; simp [h]
  · rw [List.getElem?_eq_none (by simp; omega), List.getElem?_eq_none (by simp; omega)]
end Mq
namespace Mq
open Mp
@[scoped simp] theorem bl_len_lst (o xs) : blD .len [.lst o xs] = some (.int xs.length) := (rfl)
@[scoped simp] theorem bl_len_tup (xs) : blD .len [.tup xs] = some (.int xs.length) := (rfl)
@[scoped simp] theorem bl_len_scr (xs) : blD .len [.scr xs] = some (.int xs.length) := (rfl)
@[scoped simp] theorem bl_len_dct (o k ks xs) : blD .len [.dct o k ks xs] = some (.int ks.length) := (rfl)
@[scoped simp] theorem bl_abs (i) : blD .abs [.int i] = some (.int (if i < 0 then -i else i)) := (rfl)
@[scoped simp] theorem bl_int (i) : blD .int [.int i] = some (.int i) := (rfl)
@[scoped simp] theorem bl_intb (b) : blD .int [.bl b] = some (.int (b2i b)) := (rfl)
@[scoped simp] theorem bl_bool (i) : blD .bool [.int i] = some (.bl (i != 0)) := (rfl)
@[scoped simp] theorem bl_boolb (b) : blD .bool [.bl b] = some (.bl b) := (rfl)
@[scoped simp] theorem bl_min2 (i j) : blD .min2 [.int i, .int j] = some (.int (if j < i then j else i)) := (rfl)
@[scoped simp] theorem bl_max2 (i j) : blD .max2 [.int i, .int j] = some (.int (if j > i then j else i)) := (rfl)
@[scoped simp] theorem bl_min1 (d) : blD .min1 [d] = match seqOf d with
    | some xs => match toInts xs with
      | some (x :: r) => some (.int (minI x r))
      | _ => none
    | none => none := by cases d <;> rfl
@[scoped simp] theorem bl_max1 (d) : blD .max1 [d] = match seqOf d with
    | some xs => match toInts xs with
      | some (x :: r) => some (.int (maxI x r))
      | _ => none
    | none => none := by cases d <;> rfl
@[scoped simp] theorem bl_sum (o xs) : blD .sum [.lst o xs] = match toInts xs with
    | some a => some (.int a.sum)
    | none => none := (rfl)
@[scoped simp] theorem bl_any (o xs) : blD .any [.lst o xs] = match bools xs with
    | some a => some (.bl (a.any id))
    | none => none := (rfl)
@[scoped simp] theorem bl_all (o xs) : blD .all [.lst o xs] = match bools xs with
    | some a => some (.bl (a.all id))
    | none => none := (rfl)
@[scoped simp] theorem bl_list_lst (o xs) : blD .list [.lst o xs] = if shL xs then some (.lst true xs) else none := (rfl)
@[scoped simp] theorem bl_list_tup (xs) : blD .list [.tup xs] = if shL xs then some (.lst true xs) else none := (rfl)
@[scoped simp] theorem bl_tuple_lst (o xs) : blD .tuple [.lst o xs] = if shL xs then some (.tup xs) else none := (rfl)
@[scoped simp] theorem bl_tuple_tup (xs) : blD .tuple [.tup xs] = if shL xs then some (.tup xs) else none := (rfl)
@[scoped simp] theorem bl_sorted_lst (o xs) : blD .sorted [.lst o xs] = match toInts xs with
    | some a => some (.lst true ((sortI a).map D.int))
    | none => match tupsI xs with
      | some a => if a.all (fun t => !t.isEmpty) || decide (a.length ≤ 1) then some (.lst true ((sortT a).map encT)) else none
      | none => none := (rfl)
@[scoped simp] theorem bl_sorted_dct (o k ks vs) : blD .sorted [.dct o k ks vs] = match toInts ks with
    | some a => if decide (a.length < 64) then some (.lst true ((sortI a).map D.int)) else none
    | none => none := (rfl)
@[scoped simp] theorem bl_lenset (o xs) : blD .lenset [.lst o xs] = match toInts xs with
    | some a => if decide (a.length < 1000) then some (.int (dedI a).length) else none
    | none => none := (rfl)
@[scoped simp] theorem bl_sortedset (o xs) : blD .sortedset [.lst o xs] = match toInts xs with
    | some a => if decide (a.length < 60) then some (.lst true ((sortI (dedI a)).map D.int)) else none
    | none => none := (rfl)
@[scoped simp] theorem bl_isinst (t d) : blD (.isinst t) [d] = (isTy d t).map D.bl := by cases d <;> rfl
@[scoped simp] theorem bl_isinst2 (t u d) : blD (.isinst2 t u) [d] = match isTy d t, isTy d u with
    | some a, some b => some (.bl (a || b))
    | _, _ => none := by cases d <;> rfl
@[scoped simp] theorem bm_append (xs x) : bmD .append (.lst true xs) [x] = if decide (xs.length < line) then some (.non, .lst true (xs ++ [x])) else none := (rfl)
@[scoped simp] theorem bm_pop0 (xs) : bmD .pop0 (.lst true xs) [] = match xs[xs.length - 1]? with
    | some x => some (x, .lst true xs.dropLast)
    | none => none := (rfl)
@[scoped simp] theorem bm_reverse (xs) : bmD .reverse (.lst true xs) [] = some (.non, .lst true xs.reverse) := (rfl)
@[scoped simp] theorem bm_clear (xs) : bmD .clear (.lst true xs) [] = some (.non, .lst true []) := (rfl)
@[scoped simp] theorem bm_setdef (k ks vs x y) : bmD .setdef (.dct true k ks vs) [x, y] = if keyOk k x then (match findD x ks with
      | some _ => if decide (ks.length < line) then some (.gone, .dct true k ks vs) else none
      | none => if decide (ks.length < line) then some (.gone, .dct true k (ks ++ [x]) (vs ++ [y])) else none) else none := (rfl)
@[scoped simp] theorem bmTy_lst (xs) : bmTy (.lst true xs) = some true := (rfl)
@[scoped simp] theorem bmTy_dct (ks xs) : bmTy (.dct true true ks xs) = some false := (rfl)
@[scoped simp] theorem bmFor_append : bmFor .append = true := (rfl)
@[scoped simp] theorem bmFor_pop0 : bmFor .pop0 = true := (rfl)
@[scoped simp] theorem bmFor_pop1 : bmFor .pop1 = true := (rfl)
@[scoped simp] theorem bmFor_extend : bmFor .extend = true := (rfl)
@[scoped simp] theorem bmFor_insert : bmFor .insert = true := (rfl)
@[scoped simp] theorem bmFor_remove : bmFor .remove = true := (rfl)
@[scoped simp] theorem bmFor_reverse : bmFor .reverse = true := (rfl)
@[scoped simp] theorem bmFor_sort : bmFor .sort = true := (rfl)
@[scoped simp] theorem bmFor_clear : bmFor .clear = true := (rfl)
@[scoped simp] theorem bmFor_setdef : bmFor .setdef = false := (rfl)
@[scoped simp] theorem bi_add (i j) : binI .add i j = some (.int (i + j)) := (rfl)
@[scoped simp] theorem bi_sub (i j) : binI .sub i j = some (.int (i - j)) := (rfl)
@[scoped simp] theorem bi_mul (i j) : binI .mul i j = if small64 i || small64 j then some (.int (i * j)) else none := (rfl)
@[scoped simp] theorem bi_fdiv (i j) : binI .fdiv i j = if decide (j ≠ 0) && decide (j.natAbs < 1073741824) then some (.int (i.fdiv j)) else none := (rfl)
@[scoped simp] theorem bi_mod (i j) : binI .mod i j = if decide (j ≠ 0) then some (.int (i.fmod j)) else none := (rfl)
@[scoped simp] theorem bi_pow (i j) : binI .pow i j = if decide (0 ≤ j) && decide (j ≤ 1000000) && decide (i.natAbs < 18446744073709551616) then some (.int (i ^ j.toNat)) else none := (rfl)
@[scoped simp] theorem bd_int (op i j) : binD op (.int i) (.int j) = binI op i j := (rfl)
@[scoped simp] theorem bd_addb (i b) : binD .add (.int i) (.bl b) = some (.int (i + b2i b)) := (rfl)
@[scoped simp] theorem bd_addl (o p xs ys) : binD .add (.lst o xs) (.lst p ys) = if shL xs && shL ys && decide (xs.length + ys.length ≤ line) then some (.lst true (xs ++ ys)) else none := (rfl)
@[scoped simp] theorem bd_addt (xs ys) : binD .add (.tup xs) (.tup ys) = if shL xs && shL ys && decide (xs.length + ys.length ≤ line) then some (.tup (xs ++ ys)) else none := (rfl)
@[scoped simp] theorem cd_eq (x y) : cmpD .eq x y = if okD 64 x && okD 64 y then some (.bl (eqD x y)) else none := (rfl)
@[scoped simp] theorem cd_ne (x y) : cmpD .ne x y = if okD 64 x && okD 64 y then some (.bl (!eqD x y)) else none := (rfl)
@[scoped simp] theorem cd_lt (i j) : cmpD .lt (.int i) (.int j) = some (.bl (decide (i < j))) := (rfl)
@[scoped simp] theorem cd_le (i j) : cmpD .le (.int i) (.int j) = some (.bl (decide (i ≤ j))) := (rfl)
@[scoped simp] theorem cd_gt (i j) : cmpD .gt (.int i) (.int j) = some (.bl (decide (j < i))) := (rfl)
@[scoped simp] theorem cd_ge (i j) : cmpD .ge (.int i) (.int j) = some (.bl (decide (j ≤ i))) := (rfl)
@[scoped simp] theorem cd_is_non (x) : cmpD .is_ x .non = match x with
  | .gone => none
  | .non => some (.bl true)
  | _ => some (.bl false) := by cases x <;> rfl
@[scoped simp] theorem cd_isnot_non (x) : cmpD .isnot x .non = match x with
  | .gone => none
  | .non => some (.bl false)
  | _ => some (.bl true) := by cases x <;> rfl
@[scoped simp] theorem cd_is_bl (a b) : cmpD .is_ (.bl a) (.bl b) = some (.bl (a == b)) := (rfl)
@[scoped simp] theorem cd_isnot_bl (a b) : cmpD .isnot (.bl a) (.bl b) = some (.bl (!(a == b))) := (rfl)
@[scoped simp] theorem tr_non : truth .non = some false := (rfl)
@[scoped simp] theorem tr_bl (b) : truth (.bl b) = some b := (rfl)
@[scoped simp] theorem tr_int (i) : truth (.int i) = some (i != 0) := (rfl)
@[scoped simp] theorem tr_tup (xs) : truth (.tup xs) = some (!xs.isEmpty) := (rfl)
@[scoped simp] theorem tr_lst (o xs) : truth (.lst o xs) = some (!xs.isEmpty) := (rfl)
@[scoped simp] theorem tr_dct (o k ks vs) : truth (.dct o k ks vs) = some (!ks.isEmpty) := (rfl)
@[scoped simp] theorem itemN_lst (o xs n) : itemN (.lst o xs) (.int n) = place n xs.length := (rfl)
@[scoped simp] theorem itemN_tup (xs n) : itemN (.tup xs) (.int n) = place n xs.length := (rfl)
@[scoped simp] theorem itemN_scr (xs n) : itemN (.scr xs) (.int n) = place n xs.length := (rfl)
@[scoped simp] theorem itemN_dct (o k ks vs x) : itemN (.dct o k ks vs) x = if keyOk k x then findD x ks else none := (rfl)
@[scoped simp] theorem kidsAny_tup (xs) : kidsAny (.tup xs) = xs := (rfl)
@[scoped simp] theorem kidsAny_scr (xs) : kidsAny (.scr xs) = xs.map D.int := (rfl)
@[scoped simp] theorem kidsAny_lst (o xs) : kidsAny (.lst o xs) = xs := (rfl)
@[scoped simp] theorem kidsAny_dct (o k ks xs) : kidsAny (.dct o k ks xs) = xs := (rfl)
@[scoped simp] theorem kidsAny_ins (o c fs xs) : kidsAny (.ins o c fs xs) = xs := (rfl)
@[scoped simp] theorem place_nat (a n : Nat) (h : a < n) : place (a : Int) n = some a := by
  simp [place, h]
theorem place_ok (i : Int) (n : Nat) (h0 : 0 ≤ i) (h : i < n) : place i n = some i.toNat := by simp [place, h0, h]
@[scoped simp] theorem optI_nil : optI [] = some none := (rfl)
@[scoped simp] theorem optI_one (i) : optI [.int i] = some (some i) := (rfl)
@[scoped simp] theorem cutD_lst (o xs a b) : cutD (.lst o xs) a b = if shL xs then some (.lst true (cut xs a b)) else none := (rfl)
@[scoped simp] theorem cutD_tup (xs a b) : cutD (.tup xs) a b = if shL xs then some (.tup (cut xs a b)) else none := (rfl)
@[scoped simp] theorem cut_to (xs : List D) (n : Nat) (h : n ≤ xs.length) : cut xs none (some (n : Int)) = xs.take n := by
  simp [cut, clampI, show ¬ ((n : Int) < 0) by omega, Nat.min_eq_left h]
@[scoped simp] theorem cut_from (xs : List D) (n : Nat) (h : n ≤ xs.length) : cut xs (some (n : Int)) none = xs.drop n := by
  simp [cut, clampI, show ¬ ((n : Int) < 0) by omega, Nat.min_eq_left h]
@[scoped simp] theorem cut_from1 (xs : List D) (n : Nat) (h : n < xs.length) : cut xs (some ((n : Int) + 1)) none = xs.drop (n + 1) := by
  rw [show ((n : Int) + 1) = ((n + 1 : Nat) : Int) by simp]
  exact cut_from xs (n + 1) h
@[scoped simp] theorem fldN_nil (f) : fldN f [] = none := (rfl)
@[scoped simp] theorem fldN_cons (f g r) : fldN f (g :: r) = if g = f then some 0 else (fldN f r).map (· + 1) := (rfl)
@[scoped simp] theorem rngD_1 (j) (h : okR j = true) : rngD [.int j] = some (rngL 0 j.toNat) := by simp only [rngD, h]; rfl
@[scoped simp] theorem rngD_2 (i j) (h : okR i = true) (h2 : okR j = true) : rngD [.int i, .int j] = some (rngL i (j - i).toNat) := by simp only [rngD, h, h2]; rfl
@[scoped simp] theorem keep_eq (ρ i π) : keep ρ i π = match getS ρ i π with
  | none => .stuck
  | some d => match sh d with
    | true => .ok (d, none)
    | false => match fzable d with
      | true => .ok (fz d, some (setS ρ i π (fz d)))
      | false => .stuck := (rfl)
@[scoped simp] theorem keepO_tm (ρ o d) : keepO ρ o (.tm d) = match soft d with
    | some d => .ok (d, o)
    | none => .stuck := (rfl)
@[scoped simp] theorem keepO_pl (ρ o i π) : keepO ρ o (.pl i π) = (keep (now ρ o) i π).bind fun (d, o2) => .ok (d, orE o2 o) := (rfl)
@[scoped simp] theorem takeV_tm (ρ d) : takeV ρ (.tm d) = some (d, none, none) := (rfl)
@[scoped simp] theorem takeV_pl (ρ i π) : takeV ρ (.pl i π) = match getS ρ i π with
    | none => none
    | some d => match sh d with
      | true => some (d, none, none)
      | false => match π with
        | [] => some (d, some i, some (ρ.set i .gone))
        | _ => none := (rfl)
@[scoped simp] theorem giveL_some (i bs x xs ρ) : giveL (some i :: bs) (x :: xs) ρ = giveL bs xs (ρ.set i x) := (rfl)
@[scoped simp] theorem giveL_none (bs x xs ρ) : giveL (none :: bs) (x :: xs) ρ = giveL bs xs ρ := (rfl)
@[scoped simp] theorem giveL_nil (xs ρ) : giveL [] xs ρ = ρ := (rfl)
@[scoped simp] theorem given_eq (bs outs ρ o) : given bs outs ρ o = match bs.any (·.isSome) with
  | true => some (giveL bs outs ρ)
  | false => o := (rfl)
@[scoped simp] theorem runF_eq (f as ρ o) : runF f as ρ o = match takeL as ρ with
  | none => .stuck
  | some (ds, bs, o1) => match f ds with
    | .ok d outs => .ok (d, given bs outs (now ρ o1) (orE o1 o))
    | .exc c d => .exc c d (now ρ o1)
    | .stuck => .stuck := (rfl)
@[scoped simp] theorem op2_eq (f a b o1 o2 ρ) : op2 f a b o1 o2 ρ = match a.firm || o2.isNone with
  | false => .stuck
  | true => match a.rd (now (now ρ o1) o2), b.rd (now (now ρ o1) o2) with
    | some x, some y => ofO (f x y) (orE o2 o1)
    | _, _ => .stuck := (rfl)
@[scoped simp] theorem op1_eq (f a o ρ) : op1 f a o ρ = match a.rd (now ρ o) with
  | some x => ofO (f x) o
  | none => .stuck := (rfl)
@[scoped simp] theorem getS_eq (ρ i π) : getS ρ i π = match getP (slot ρ i) π with
  | some .gone => none
  | o => o := (rfl)
@[scoped simp] theorem setS_eq (ρ i π x) : setS ρ i π x = ρ.set i (setP (slot ρ i) π x) := (rfl)
@[scoped simp] theorem midD_eq (a ρ) : midD a ρ = match a.rd ρ with
  | some y => match flat y with
    | true => .ok y
    | false => .stuck
  | none => .stuck := (rfl)
@[scoped simp] theorem flat_int (i) : flat (.int i) = true := (rfl)
@[scoped simp] theorem flat_bl (i) : flat (.bl i) = true := (rfl)
@[scoped simp] theorem flat_str (i) : flat (.str i) = true := (rfl)
@[scoped simp] theorem flat_non : flat .non = true := (rfl)
theorem dF_nx {C : Cfg} {f : Df} {ds : List D} {ρ : Env} (hl : ds.length = f.prot.length) (h : dSs C f.body (ds ++ List.replicate (f.slots - ds.length) .gone) = .nx ρ) : dF C f ds = .ok .non (outsOf f.prot ρ) := by
  unfold dF; rw [decide_eq_true hl]; simp only [h]
theorem dF_ret {C : Cfg} {f : Df} {ds : List D} {d : D} {ρ : Env} (hl : ds.length = f.prot.length) (h : dSs C f.body (ds ++ List.replicate (f.slots - ds.length) .gone) = .ret d ρ) : dF C f ds = .ok d (outsOf f.prot ρ) := by
  unfold dF; rw [decide_eq_true hl]; simp only [h]
theorem dF_exc {C : Cfg} {f : Df} {ds : List D} {c : Nat} {d : D} {ρ : Env} (hl : ds.length = f.prot.length) (h : dSs C f.body (ds ++ List.replicate (f.slots - ds.length) .gone) = .exc c d ρ) : dF C f ds = .exc c d := by
  unfold dF; rw [decide_eq_true hl]; simp only [h]
end Mq

namespace Mq
open Mp
/-- a turn of a for -/
def turnF (C : Cfg) (tg : Tg) (body : Ss) (x : D) (r : Env) : SR := match bindT tg x r with
  | none => .stuck
  | some r1 => dSs C body r1
@[scoped simp] theorem dS_for (C : Cfg) (it) (tg) (body) (ρ : Env) : dS C (.for_ it tg body) ρ = (dI C it ρ).then fun (xs, o) => (loopF (turnF C tg body) xs (lockI it (now ρ o))).mapE (unlockI it (now ρ o)) := (rfl)
/-- a turn of a comprehension -/
def turnC (C : Cfg) (tg : Tg) (own : List Nat) (cs : Cs) (elt : E) (x : D) (r : Env) : R (List D × Option Env) := match bindT tg x r with
  | none => .stuck
  | some r1 => (dCs C cs r1).bind fun (b, o1) => match b with
    | false => .ok ([], back own o1)
    | true => (dE C elt (now r1 o1)).bind fun (y, o2) => .ok ([y], back own (orE o2 o1))
@[scoped simp] theorem dE_lc (C : Cfg) (it) (tg) (own) (cs) (elt) (ρ : Env) : dE C (.lc it tg own cs elt) ρ = (dI C it ρ).bind fun (xs, o) => match ownOk own (lockI it (now ρ o)) with
    | false => .stuck
    | true => (compL (turnC C tg own cs elt) xs (wipe own (lockI it (now ρ o))) none).bind fun (ys, o3) =>
    if ys.length ≤ line then .ok (.lst true ys, compO it own (now ρ o) o o3) else .stuck := (rfl)
theorem turnF_var (C i body x r) : turnF C (.var i) body x r = dSs C body (r.set i x) := (rfl)
theorem turnF_two (C i j body x y r) : turnF C (.tup (.cons (.var i) (.cons (.var j) .nil))) body (.tup [x, y]) r = dSs C body ((r.set i x).set j y) := (rfl)
theorem turnC_var (C i own cs elt x r) : turnC C (.var i) own cs elt x r = (dCs C cs (r.set i x)).bind fun (b, o1) => match b with
    | false => .ok ([], back own o1)
    | true => (dE C elt (now (r.set i x) o1)).bind fun (y, o2) => .ok ([y], back own (orE o2 o1)) := (rfl)
theorem turnC_two (C i j own cs elt x z r) : turnC C (.tup (.cons (.var i) (.cons (.var j) .nil))) own cs elt (.tup [x, z]) r = (dCs C cs ((r.set i x).set j z)).bind fun (b, o1) => match b with
    | false => .ok ([], back own o1)
    | true => (dE C elt (now ((r.set i x).set j z) o1)).bind fun (y, o2) => .ok ([y], back own (orE o2 o1)) := (rfl)
/-- a loop over the numbers from 0, by an invariant -/
theorem loop_rng {turn : D → Env → SR} (I : Nat → Env → Prop) {ρ : Env} (n : Nat) (h : I 0 ρ) (k : ∀ j ρ, j < n → I j ρ → ∃ ρ', turn (.int j) ρ = .nx ρ' ∧ I (j + 1) ρ') : ∃ ρ', loopF turn (rngL 0 n) ρ = .nx ρ' ∧ I n ρ' := by
  obtain ⟨ρ', e, h'⟩ := loop_inv (turn := turn) I (xs := rngL 0 n) 0 h fun j x r hx hI => by
    have hj : j < n := by
      have := (List.getElem?_eq_some_iff.1 hx).1
      simpa using this
    rw [rngL_get 0 n j hj] at hx
    cases hx
    obtain ⟨ρ', e, h'⟩ := k j r hj (by simpa using hI)
    exact ⟨ρ', by simpa using e, by simpa using h'⟩
  exact ⟨ρ', e, by simpa using h'⟩
/-- a loop that leads the slots through a function of what was done -/
theorem loop_fold {α β : Type} {turn : D → Env → SR} (enc : α → D) (f : β → α → β) (ρ : β → Env) : ∀ (xs : List α) (b : β), (∀ b x, x ∈ xs → turn (enc x) (ρ b) = .nx (ρ (f b x))) → loopF turn (xs.map enc) (ρ b) = .nx (ρ (xs.foldl f b))
  | [], b, _ => rfl
  | x :: xs, b, k => by
    simp only [List.map_cons, List.foldl_cons]
    unfold loopF
    rw [k b x (by simp)]
    exact loop_fold enc f ρ xs (f b x) fun b y hy => k b y (by simp [hy])
end Mq
namespace Mq
open Mp
/-- a comprehension, by an invariant of the slots and of what is made -/
theorem comp_inv {turn : D → Env → R (List D × Option Env)} (J : Nat → Env → List D → Prop) {ρ : Env} : ∀ {xs : List D} {o : Option Env} {acc : List D} (i : Nat), J i (now ρ o) acc → (∀ j x r acc, xs[j]? = some x → J (i + j) r acc → ∃ y o1, turn x r = .ok (y, o1) ∧ J (i + j + 1) (now r o1) (acc ++ y)) → ∃ ys o', compL turn xs ρ o = .ok (ys, o') ∧ J (i + xs.length) (now ρ o') (acc ++ ys)
  | [], o, acc, i, h, _ => ⟨[], o, rfl, by simpa using h⟩
  | x :: xs, o, acc, i, h, k => by
    obtain ⟨y, o1, e1, h1⟩ := k 0 x _ acc rfl h
    have e2 : now ρ (orE o1 o) = now (now ρ o) o1 := by cases o1 <;> rfl
    obtain ⟨ys, o', e, h2⟩ := comp_inv J (ρ := ρ) (xs := xs) (o := orE o1 o) (acc := acc ++ y) (i + 1) (by rw [e2]; exact h1) fun j z r ac hz hJ => by
      have e3 : i + 1 + j = i + (j + 1) := by omega
      rw [e3] at hJ ⊢
      exact k (j + 1) z r ac hz hJ
    refine ⟨y ++ ys, o', ?_, ?_⟩
    · unfold compL
      rw [e1]
      simp only [R.calm, R.bind]
      rw [e]
    · have e3 : i + (x :: xs).length = i + 1 + xs.length := by simp; omega
      rw [e3, ← List.append_assoc]
      exact h2
theorem comp_rng {turn : D → Env → R (List D × Option Env)} (J : Nat → Env → List D → Prop) {ρ : Env} (n : Nat) (h : J 0 ρ []) (k : ∀ j r acc, j < n → J j r acc → ∃ y o1, turn (.int j) r = .ok (y, o1) ∧ J (j + 1) (now r o1) (acc ++ y)) : ∃ ys o', compL turn (rngL 0 n) ρ none = .ok (ys, o') ∧ J n (now ρ o') ys := by
  obtain ⟨ys, o', e, h'⟩ := comp_inv (turn := turn) J (ρ := ρ) (xs := rngL 0 n) (o := none) (acc := []) 0 h fun j x r acc hx hJ => by
    have hj : j < n := by
      have := (List.getElem?_eq_some_iff.1 hx).1
      simpa using this
    rw [rngL_get 0 n j hj] at hx
    cases hx
    obtain ⟨y, o1, e, h'⟩ := k j r acc hj (by simpa using hJ)
    exact ⟨y, o1, by simpa using e, by simpa using h'⟩
  exact ⟨ys, o', e, by simpa using h'⟩
/-- a comprehension over encoded things whose turns leave the slots alone -/
theorem comp_enc {α : Type} {turn : D → Env → R (List D × Option Env)} (enc : α → D) (g : α → List D) {ρ : Env} {xs : List α} (k : ∀ x ∈ xs, turn (enc x) ρ = .ok (g x, none)) : compL turn (xs.map enc) ρ none = .ok (xs.flatMap g, none) := by
  induction xs with
  | nil => rfl
  | cons x xs ih =>
    simp only [List.map_cons, List.flatMap_cons]
    unfold compL
    rw [show now ρ none = ρ from rfl, k x (by simp)]
    simp only [R.calm, R.bind, orE]
    rw [ih fun y hy => k y (by simp [hy])]
/-- the same, one thing a turn -/
theorem comp_one {α : Type} {turn : D → Env → R (List D × Option Env)} (enc : α → D) (g : α → D) {ρ : Env} {xs : List α} (k : ∀ x ∈ xs, turn (enc x) ρ = .ok ([g x], none)) : compL turn (xs.map enc) ρ none = .ok (xs.map g, none) := by
  rw [comp_enc enc (fun x => [g x]) k]
  congr 2
  clear k
  induction xs with
  | nil => rfl
  | cons x xs ih => simp [ih]
/-- the same, some of the things -/
theorem comp_some {α : Type} {turn : D → Env → R (List D × Option Env)} (enc : α → D) (p : α → Bool) (g : α → D) {ρ : Env} {xs : List α} (k : ∀ x ∈ xs, turn (enc x) ρ = .ok (if p x then [g x] else [], none)) : compL turn (xs.map enc) ρ none = .ok ((xs.filter p).map g, none) := by
  rw [comp_enc enc (fun x => if p x then [g x] else []) k]
  congr 2
  clear k
  induction xs with
  | nil => rfl
  | cons x xs ih => by_cases h : p x <;> simp [h, ih]
theorem rng_enc (n : Nat) : rngL 0 n = (List.range n).map fun j : Nat => D.int j := by simpa using rngL_eq 0 n
end Mq
namespace Mq
open Mp
@[scoped simp] theorem okR_nat (n : Nat) (h : n ≤ 1000000) : okR n = true := by
  rw [okR_eq]; unfold two62
  simp
  omega
@[scoped simp] theorem okR_small (n : Int) (h : -1000000 ≤ n) (h2 : n ≤ 1000000) : okR n = true := by
  rw [okR_eq]; unfold two62
  simp
  omega
@[scoped simp] theorem b2i_eq (b : Bool) : b2i b = if b then 1 else 0 := (rfl)
@[scoped simp] theorem le_line (n : Nat) : (n ≤ line) = (n ≤ 16777216) := by unfold line; rfl
@[scoped simp] theorem lt_line (n : Nat) : (n < line) = (n < 16777216) := by unfold line; rfl
end Mq
namespace Mq
open Mp
/-- a loop that follows a fold -/
theorem loop_foldR {α β : Type} {turn : D → Env → SR} (enc : α → D) (f : β → α → β) (P : β → Env → Prop) : ∀ (xs : List α) (b : β) (ρ : Env), P b ρ → (∀ b x ρ, x ∈ xs → P b ρ → ∃ ρ', turn (enc x) ρ = .nx ρ' ∧ P (f b x) ρ') → ∃ ρ', loopF turn (xs.map enc) ρ = .nx ρ' ∧ P (xs.foldl f b) ρ'
  | [], b, ρ, h, _ => ⟨ρ, rfl, h⟩
  | x :: xs, b, ρ, h, k => by
    obtain ⟨ρ1, e1, h1⟩ := k b x ρ (by simp) h
    obtain ⟨ρ2, e2, h2⟩ := loop_foldR enc f P xs (f b x) ρ1 h1 fun b y ρ hy h => k b y ρ (by simp [hy]) h
    refine ⟨ρ2, ?_, h2⟩
    simp only [List.map_cons]
    unfold loopF
    rw [e1]
    exact e2
@[scoped simp high] theorem bl_min2n (a b : Nat) : blD .min2 [.int (a : Int), .int (b : Int)] = some (.int ((min a b : Nat) : Int)) := by
  rw [bl_min2]; congr 2; split <;> omega
@[scoped simp high] theorem bl_max2n (a b : Nat) : blD .max2 [.int (a : Int), .int (b : Int)] = some (.int ((max a b : Nat) : Int)) := by
  rw [bl_max2]; congr 2; split <;> omega
/-- lists of natural numbers, of pairs -/
abbrev N (xs : List Nat) : List D := xs.map fun n : Nat => D.int n
abbrev en (e : Nat × Nat) : D := .tup [.int e.1, .int e.2]
abbrev Ed (es : List (Nat × Nat)) : List D := es.map en
theorem shL_N (xs : List Nat) : shL (N xs) = true := shL_map _ xs (by simp)
theorem shL_Ed (xs : List (Nat × Nat)) : shL (Ed xs) = true := shL_map _ xs (by simp)
@[scoped simp] theorem shL_mapsimp {α : Type} (f : α → D) (xs : List α) (h : ∀ x, sh (f x) = true) : shL (xs.map f) = true := shL_map f xs h
end Mq
namespace Mq
open Mp
@[scoped simp] theorem cast_inj2 (a b : Nat) : ((a : Int) = (b : Int)) = (a = b) := by apply propext; omega
@[scoped simp] theorem cast_lt2 (a b : Nat) : ((a : Int) < (b : Int)) = (a < b) := by apply propext; omega
@[scoped simp] theorem cast_le2 (a b : Nat) : ((a : Int) ≤ (b : Int)) = (a ≤ b) := by apply propext; omega
@[scoped simp] theorem cast_zero (a : Nat) : ((a : Int) = 0) = (a = 0) := by apply propext; omega
@[scoped simp] theorem cast_one (a : Nat) : ((a : Int) = 1) = (a = 1) := by apply propext; omega
@[scoped simp] theorem cast_neg0 (a : Nat) : ((a : Int) < 0) = False := by apply propext; constructor; omega; exact False.elim
@[scoped simp] theorem cast_nn (a : Nat) : (0 ≤ (a : Int)) = True := by apply propext; constructor; simp; omega
@[scoped simp] theorem cast_pos (a : Nat) : (0 < (a : Int)) = (0 < a) := by apply propext; omega
end Mq
namespace Mq
open Mp
@[scoped simp] theorem toInts_mapf {α : Type} (f : α → Int) : ∀ xs : List α, toInts (xs.map fun x => D.int (f x)) = some (xs.map f)
  | [] => rfl
  | x :: xs => by simp [toInts_mapf f xs]
theorem findD_N (k : Nat) : ∀ K : List Nat, findD (.int k) (N K) = if k ∈ K then some (K.idxOf k) else none
  | [] => rfl
  | y :: K => by
    have ih := findD_N k K
    simp only [N, List.map_cons, findD, eqD_int, cast_inj2] at ih ⊢
    by_cases h : y = k
    · subst h; simp
    · by_cases h2 : k ∈ K
      · simp [h, ih, h2, List.idxOf_cons, Ne.symm h, beq_eq_false_iff_ne.2 h]
      · simp [h, ih, h2, Ne.symm h]
theorem insI_commQ (x y : Int) : ∀ l : List Int, insI x (insI y l) = insI y (insI x l)
  | [] => by
    simp only [insI]
    by_cases h : x ≤ y <;> by_cases h2 : y ≤ x <;> simp [h, h2]
    · have : x = y := by omega
      subst this; simp
    · omega
  | z :: l => by
    have ih := insI_commQ x y l
    simp only [insI]
    by_cases h1 : x ≤ z <;> by_cases h2 : y ≤ z <;> simp only [h1, h2, if_true, if_false, insI, ih]
    · by_cases h : x ≤ y <;> by_cases h3 : y ≤ x <;> simp [h, h3]
      · have : x = y := by omega
        subst this; simp
      · omega
    · have h3 : ¬ y ≤ x := by omega
      simp [h3]
    · have h3 : ¬ x ≤ y := by omega
      simp [h3]
theorem sortI_permQ {xs ys : List Int} (h : xs.Perm ys) : sortI xs = sortI ys := by
  induction h with
  | nil => rfl
  | cons x _ ih => simp only [sortI, ih]
  | swap x y l => simp only [sortI]; exact insI_commQ _ _ _
  | trans _ _ a b => exact a.trans b
theorem mem_insI (x a : Int) : ∀ l : List Int, a ∈ insI x l ↔ a = x ∨ a ∈ l
  | [] => by simp [insI]
  | z :: l => by
    simp only [insI]
    split
    · simp
    · simp only [List.mem_cons, mem_insI x a l]
      constructor
      · rintro (h | h | h)
        · exact .inr (.inl h)
        · exact .inl h
        · exact .inr (.inr h)
      · rintro (h | h | h)
        · exact .inr (.inl h)
        · exact .inl h
        · exact .inr (.inr h)
theorem mem_sortI (a : Int) : ∀ l : List Int, a ∈ sortI l ↔ a ∈ l
  | [] => by simp [sortI]
  | x :: l => by simp [sortI, mem_insI, mem_sortI a l]
theorem mem_dedIQ (a : Int) : ∀ l : List Int, a ∈ dedI l ↔ a ∈ l
  | [] => by simp [dedI]
  | x :: l => by
    simp only [dedI]
    split
    · rename_i h
      rw [mem_dedIQ a l]
      simp only [List.mem_cons]
      constructor
      · exact .inr
      · rintro (rfl | h2)
        · simpa using h
        · exact h2
    · simp [mem_dedIQ a l]
theorem nodup_dedIQ : ∀ l : List Int, (dedI l).Nodup
  | [] => by simp [dedI]
  | x :: l => by
    simp only [dedI]
    split
    · exact nodup_dedIQ l
    · rename_i h
      refine List.nodup_cons.2 ⟨?_, nodup_dedIQ l⟩
      rw [mem_dedIQ]
      simpa using h
theorem perm_of {xs ys : List Int} (hx : xs.Nodup) (hy : ys.Nodup) (h : ∀ a, a ∈ xs ↔ a ∈ ys) : xs.Perm ys := (List.perm_ext_iff_of_nodup hx hy).2 h
theorem nodup_cast {K : List Nat} (h : K.Nodup) : (K.map fun n : Nat => (n : Int)).Nodup := by
  refine List.Pairwise.map _ ?_ h
  intro a b hab
  simpa using hab
theorem mem_cast (a : Int) (K : List Nat) : (a ∈ K.map fun n : Nat => (n : Int)) ↔ ∃ k ∈ K, a = k := by
  simp only [List.mem_map]
  constructor
  · rintro ⟨k, h, rfl⟩; exact ⟨k, h, rfl⟩
  · rintro ⟨k, h, rfl⟩; exact ⟨k, h, rfl⟩
theorem set_idx {α : Type} (f : Nat → α) (v : α) (k : Nat) : ∀ (K : List Nat), K.Nodup → (K.map f).set (K.idxOf k) v = K.map fun x => if x = k then v else f x
  | [], _ => by simp
  | y :: K, h => by
    have hy := List.nodup_cons.1 h
    by_cases e : y = k
    · subst e
      simp only [List.map_cons, List.idxOf_cons_self, List.set_cons_zero, if_true]
      congr 1
      apply List.map_congr_left
      intro x hx
      have : x ≠ y := fun z => hy.1 (z ▸ hx)
      simp [this]
    · have e2 : (y == k) = false := by simpa using e
      simp only [List.map_cons, List.idxOf_cons, e2, cond_false, List.set_cons_succ, set_idx f v k K hy.2, e, if_false]
end Mq
namespace Mq
open Mp
/-- a comprehension, one thing a turn, whose turns keep P of the slots -/
theorem comp_mapS {α : Type} {turn : D → Env → R (List D × Option Env)} (enc : α → D) (g : α → D) (P : Env → Prop) {ρ : Env} : ∀ {xs : List α} {o : Option Env}, P (now ρ o) → (∀ x ∈ xs, ∀ r, P r → ∃ o1, turn (enc x) r = .ok ([g x], o1) ∧ P (now r o1)) → ∃ o', compL turn (xs.map enc) ρ o = .ok (xs.map g, o') ∧ P (now ρ o')
  | [], o, h, _ => ⟨o, rfl, h⟩
  | x :: xs, o, h, k => by
    obtain ⟨o1, e1, h1⟩ := k x (by simp) _ h
    have e2 : now ρ (orE o1 o) = now (now ρ o) o1 := by cases o1 <;> rfl
    obtain ⟨o', e, h2⟩ := comp_mapS enc g P (ρ := ρ) (xs := xs) (o := orE o1 o) (by rw [e2]; exact h1) fun y hy r hr => k y (by simp [hy]) r hr
    refine ⟨o', ?_, h2⟩
    simp only [List.map_cons]
    unfold compL
    rw [e1]
    simp only [R.calm, R.bind]
    rw [e]
    rfl
theorem map_set_get {α β : Type} (f : α → β) (xs : List α) (i : Nat) (h : i < xs.length) : (xs.map f).set i (f xs[i]) = xs.map f := by
  apply List.ext_getElem?
  intro j
  by_cases e : i = j
  · subst e; simp [h]
  · simp [List.getElem?_set, e]
end Mq
namespace Mq
open Mp
theorem insI_len (x : Int) : ∀ l : List Int, (insI x l).length = l.length + 1
  | [] => rfl
  | y :: l => by
    simp only [insI]
    split
    · rfl
    · simp [insI_len x l]
theorem sort_len : ∀ l : List Int, (sortI l).length = l.length
  | [] => rfl
  | x :: l => by simp [sortI, insI_len, sort_len l]
end Mq
namespace Mq
open Mp
@[scoped simp] theorem fzL_mapsimp {α : Type} (f : α → D) (xs : List α) (h : ∀ x, sh (f x) = true) : fzL (xs.map f) = xs.map f := fzL_map f xs h
@[scoped simp] theorem fzableL_mapsimp {α : Type} (f : α → D) (xs : List α) (h : ∀ x, sh (f x) = true) : fzableL (xs.map f) = true := fzableL_of_sh _ (shL_map f xs h)
/-- a loop that raises in its last turn -/
theorem loop_exc {α : Type} {turn : D → Env → SR} (enc : α → D) (P : Env → Prop) (bad : D) (c : Nat) (d : D) : ∀ (xs : List α) (ys : List D) (ρ : Env), P ρ → (∀ x ρ, x ∈ xs → P ρ → ∃ ρ', turn (enc x) ρ = .nx ρ' ∧ P ρ') → (∀ ρ, P ρ → ∃ ρ', turn bad ρ = .exc c d ρ') → ∃ ρ', loopF turn (xs.map enc ++ bad :: ys) ρ = .exc c d ρ'
  | [], ys, ρ, h, _, kb => by
    obtain ⟨ρ', e⟩ := kb ρ h
    refine ⟨ρ', ?_⟩
    simp only [List.map_nil, List.nil_append]
    unfold loopF
    rw [e]
  | x :: xs, ys, ρ, h, k, kb => by
    obtain ⟨ρ1, e1, h1⟩ := k x ρ (by simp) h
    obtain ⟨ρ2, e2⟩ := loop_exc enc P bad c d xs ys ρ1 h1 (fun y ρ hy h => k y ρ (by simp [hy]) h) kb
    refine ⟨ρ2, ?_⟩
    simp only [List.map_cons, List.cons_append]
    unfold loopF
    rw [e1]
    exact e2
/-- a loop whose turns go through -/
theorem loop_keep {α : Type} {turn : D → Env → SR} (enc : α → D) (P : Env → Prop) (xs : List α) (ρ : Env) (h : P ρ) (k : ∀ x ρ, x ∈ xs → P ρ → ∃ ρ', turn (enc x) ρ = .nx ρ' ∧ P ρ') : ∃ ρ', loopF turn (xs.map enc) ρ = .nx ρ' ∧ P ρ' := by
  obtain ⟨ρ', e, h'⟩ := loop_foldR enc (fun (_ : Unit) (_ : α) => ()) (fun _ ρ => P ρ) xs () ρ h fun _ x ρ hx h => k x ρ hx h
  exact ⟨ρ', e, h'⟩
end Mq
namespace Mq
open Mp
@[scoped simp] theorem getElem_castmap (xs : List Nat) (n : Nat) (h : n < xs.length) : (N xs)[n]? = some (.int xs[n]) := by simp [h]
/-- make freezes what is made -/
theorem min1_pair (a b : Nat) : minI a [(b : Int)] = ((min a b : Nat) : Int) := by
  simp only [minI]
  split <;> omega
theorem max1_pair (a b : Nat) : maxI a [(b : Int)] = ((max a b : Nat) : Int) := by
  simp only [maxI]
  split <;> omega
end Mq
namespace Mq
open Mp
@[scoped simp] theorem shL_take (n : Nat) (xs : List D) (h : shL xs = true) : shL (xs.take n) = true := by
  have e : shL (xs.take n ++ xs.drop n) = true := by rw [List.take_append_drop]; exact h
  rw [shL_app] at e
  simp at e
  exact e.1
@[scoped simp] theorem shL_drop (n : Nat) (xs : List D) (h : shL xs = true) : shL (xs.drop n) = true := by
  have e : shL (xs.take n ++ xs.drop n) = true := by rw [List.take_append_drop]; exact h
  rw [shL_app] at e
  simp at e
  exact e.2
end Mq
namespace Mq
open Mp
@[scoped simp] theorem fzL_app (xs ys : List D) : fzL (xs ++ ys) = fzL xs ++ fzL ys := by simp [fz_shL]
@[scoped simp] theorem fzableL_app : ∀ xs ys : List D, fzableL (xs ++ ys) = (fzableL xs && fzableL ys)
  | [], ys => by simp
  | x :: xs, ys => by simp [fzableL_app xs ys, Bool.and_assoc]
@[scoped simp] theorem fzL_take {α : Type} (f : α → D) (n : Nat) (xs : List α) (h : ∀ x, sh (f x) = true) : fzL ((xs.map f).take n) = (xs.map f).take n := fzL_of_sh _ (shL_take _ _ (shL_map f xs h))
@[scoped simp] theorem fzL_drop {α : Type} (f : α → D) (n : Nat) (xs : List α) (h : ∀ x, sh (f x) = true) : fzL ((xs.map f).drop n) = (xs.map f).drop n := fzL_of_sh _ (shL_drop _ _ (shL_map f xs h))
@[scoped simp] theorem fzableL_take {α : Type} (f : α → D) (n : Nat) (xs : List α) (h : ∀ x, sh (f x) = true) : fzableL ((xs.map f).take n) = true := fzableL_of_sh _ (shL_take _ _ (shL_map f xs h))
@[scoped simp] theorem fzableL_drop {α : Type} (f : α → D) (n : Nat) (xs : List α) (h : ∀ x, sh (f x) = true) : fzableL ((xs.map f).drop n) = true := fzableL_of_sh _ (shL_drop _ _ (shL_map f xs h))
end Mq
namespace Mq
open Mp
/-- a loop over encoded things, by what holds behind i of them -/
theorem loop_pre {α : Type} {turn : D → Env → SR} (enc : α → D) (P : Nat → Env → Prop) (xs : List α) {ρ : Env} (h : P 0 ρ) (k : ∀ i (hi : i < xs.length) ρ, P i ρ → ∃ ρ', turn (enc xs[i]) ρ = .nx ρ' ∧ P (i + 1) ρ') : ∃ ρ', loopF turn (xs.map enc) ρ = .nx ρ' ∧ P xs.length ρ' := by
  obtain ⟨ρ', e, h'⟩ := loop_inv (turn := turn) P (xs := xs.map enc) 0 h fun j x r hx hP => by
    have hj : j < xs.length := by
      have := (List.getElem?_eq_some_iff.1 hx).1
      simpa using this
    simp [hj] at hx
    subst hx
    obtain ⟨ρ', e, h'⟩ := k j hj r (by simpa using hP)
    exact ⟨ρ', e, by simpa using h'⟩
  exact ⟨ρ', e, by simpa using h'⟩
end Mq
namespace Mq
open Mp
@[scoped simp] theorem revD_lst (o xs) : revD (.lst o xs) = if shL xs then some (.lst true xs.reverse) else none := (rfl)
@[scoped simp] theorem bm_insert' (xs i x) : bmD .insert (.lst true xs) [.int i, x] = if decide (xs.length < line) && decide (0 ≤ i) && decide (i < 2 ^ 62) then some (.non, .lst true (xs.take i.toNat ++ x :: xs.drop i.toNat)) else none := (rfl)
@[scoped simp] theorem bm_remove' (xs k) : bmD .remove (.lst true xs) [.int k] = match toInts xs with
    | some ns => (match ns.idxOf? k with
      | some n => some (.non, .lst true (xs.eraseIdx n))
      | none => none)
    | none => none := (rfl)
@[scoped simp] theorem zipD_ll (o p xs ys) : zipD (.lst o xs) (.lst p ys) = if shL xs && shL ys then some (zipL xs ys) else none := (rfl)
@[scoped simp] theorem zipD_lt (o xs ys) : zipD (.lst o xs) (.tup ys) = if shL xs && shL ys then some (zipL xs ys) else none := (rfl)
@[scoped simp] theorem zipD_tt (xs ys) : zipD (.tup xs) (.tup ys) = if shL xs && shL ys then some (zipL xs ys) else none := (rfl)
@[scoped simp] theorem bl_sortedset_t (xs) : blD .sortedset [.tup xs] = match toInts xs with
    | some a => if decide (a.length < 60) then some (.lst true ((sortI (dedI a)).map D.int)) else none
    | none => none := (rfl)
@[scoped simp] theorem lockI_zip (i j ρ) : lockI (.zip i j) ρ = ρ := (rfl)
@[scoped simp] theorem lockI_enum (i ρ) : lockI (.enum i) ρ = ρ := (rfl)
@[scoped simp] theorem unlockI_zip (i j r ρ) : unlockI (.zip i j) r ρ = ρ := (rfl)
@[scoped simp] theorem unlockI_enum (i r ρ) : unlockI (.enum i) r ρ = ρ := (rfl)
@[scoped simp] theorem cd_in_lst (x o ys) : cmpD .in_ x (.lst o ys) = if okD 64 x && okL 63 ys then some (.bl (memD x ys)) else none := (rfl)
@[scoped simp] theorem cd_in_tup (x ys) : cmpD .in_ x (.tup ys) = if flat x && ys.all flat then some (.bl (memD x ys)) else none := (rfl)
@[scoped simp] theorem cd_in_dct (x o k ks vs) : cmpD .in_ x (.dct o k ks vs) = if keyOk k x then some (.bl (memD x ks)) else none := (rfl)
@[scoped simp] theorem cd_notin_lst (x o ys) : cmpD .notin x (.lst o ys) = if okD 64 x && okL 63 ys then some (.bl (!memD x ys)) else none := (rfl)
@[scoped simp] theorem cd_notin_tup (x ys) : cmpD .notin x (.tup ys) = if flat x && ys.all flat then some (.bl (!memD x ys)) else none := (rfl)
@[scoped simp] theorem cd_notin_dct (x o k ks vs) : cmpD .notin x (.dct o k ks vs) = if keyOk k x then some (.bl (!memD x ks)) else none := (rfl)
@[scoped simp] theorem keyOk_int (i) : keyOk true (.int i) = true := (rfl)
theorem memD_N (k : Nat) : ∀ K : List Nat, memD (.int k) (N K) = decide (k ∈ K)
  | [] => rfl
  | y :: K => by
    have ih := memD_N k K
    simp only [N, List.map_cons, memD, eqD_int, cast_inj2] at ih ⊢
    rw [ih, Bool.eq_iff_iff]
    simp only [Bool.or_eq_true, decide_eq_true_eq, List.mem_cons]
    constructor
    · rintro (h | h)
      · exact .inl h.symm
      · exact .inr h
    · rintro (h | h)
      · exact .inl h.symm
      · exact .inr h
theorem okL_N (n : Nat) (xs : List Nat) : okL n (N xs) = true := okL_of n (by simp)
theorem flat_N (xs : List Nat) : (N xs).all flat = true := by simp
end Mq
namespace Mq
open Mp
theorem bd_mul_l (o : Bool) (xs : List D) (n : Nat) (h : shL xs = true) (h2 : n ≤ 1000000) (h3 : xs.length * n ≤ 16777216) : binD .mul (.lst o xs) (.int n) = some (.lst true (List.replicate n xs).flatten) := by
  have a1 : decide (-two62 ≤ (n : Int)) = true := decide_eq_true (by unfold two62; omega)
  have a2 : decide ((n : Int) ≤ two62) = true := decide_eq_true (by unfold two62; omega)
  have a3 : decide (xs.length * n ≤ line) = true := by simpa using h3
  unfold binD
  simp only [h, a1, a2, a3, Bool.and_true, if_true, Int.toNat_natCast]
end Mq
namespace Mq
open Mp
@[scoped simp] theorem intD_int (a) : intD (.int a) = some a := (rfl)
@[scoped simp] theorem itemA_lst (o xs n) : itemA (.lst o xs) (.int n) = match place n xs.length with
    | some k => match xs[k]? with
      | some c => intD c
      | none => none
    | none => none := (rfl)
@[scoped simp] theorem bm_pop1 (xs i) : bmD .pop1 (.lst true xs) [.int i] = if decide (-1000000 ≤ i) && decide (i ≤ 1000000) then (match place i xs.length with
    | some n => match xs[n]? with
      | some x => some (x, .lst true (xs.eraseIdx n))
      | none => none
    | none => none) else none := (rfl)
end Mq
namespace Mq
open Mp
@[scoped simp] theorem zipD_tl (o xs ys) : zipD (.tup xs) (.lst o ys) = if shL xs && shL ys then some (zipL xs ys) else none := (rfl)
end Mq
namespace k87
open Mp Mq
def inR (v : Nat) (es : List (Nat × Nat)) : Prop := ∀ e ∈ es, e.1 < v ∧ e.2 < v
@[simp] theorem sl_0 : (PySem.Str.ofString "edges").length = 5 := by decide +kernel
@[simp] theorem so_0 : strOk (PySem.Str.ofString "edges") = true := by decide +kernel
@[simp] theorem sl_1 : (PySem.Str.ofString "vertices").length = 8 := by decide +kernel
@[simp] theorem so_1 : strOk (PySem.Str.ofString "vertices") = true := by decide +kernel
@[simp] theorem sl_2 : (PySem.Str.ofString "bounds").length = 6 := by decide +kernel
@[simp] theorem so_2 : strOk (PySem.Str.ofString "bounds") = true := by decide +kernel
@[simp] theorem sl_3 : (PySem.Str.ofString "capacities").length = 10 := by decide +kernel
@[simp] theorem so_3 : strOk (PySem.Str.ofString "capacities") = true := by decide +kernel
@[simp] theorem sl_4 : (PySem.Str.ofString "vertex").length = 6 := by decide +kernel
@[simp] theorem so_4 : strOk (PySem.Str.ofString "vertex") = true := by decide +kernel
@[simp] theorem sl_5 : (PySem.Str.ofString "set").length = 3 := by decide +kernel
@[simp] theorem so_5 : strOk (PySem.Str.ofString "set") = true := by decide +kernel
@[simp] theorem sl_6 : (PySem.Str.ofString "flow").length = 4 := by decide +kernel
@[simp] theorem so_6 : strOk (PySem.Str.ofString "flow") = true := by decide +kernel
@[simp] theorem sl_7 : (PySem.Str.ofString "another").length = 7 := by decide +kernel
@[simp] theorem so_7 : strOk (PySem.Str.ofString "another") = true := by decide +kernel
@[simp] theorem sl_8 : (PySem.Str.ofString "way").length = 3 := by decide +kernel
@[simp] theorem so_8 : strOk (PySem.Str.ofString "way") = true := by decide +kernel

theorem take1 (xs : List Int) (x many : Int) (h : many ≠ 0) : m_l_law_take [.lst true ((xs ++ [x]).map D.int), .int many] = .ok (.int (x.fmod many)) [.lst true (xs.map D.int), .int many] := by
  have h1 : ¬ ((xs.length : Int) + 1 = 0) := by omega
  simp [m_l_law_take, b_l_law_take, dF, small64_eq, h, h1]
theorem take0 (many : Int) : m_l_law_take [.lst true [], .int many] = .ok (.int 0) [.lst true [], .int many] := by
  simp [m_l_law_take, b_l_law_take, dF, small64_eq]
/-- the deck: whole numbers -/
abbrev L (xs : List Int) : D := .lst true (xs.map D.int)
theorem take_ok (xs : List Int) (many : Nat) (h : 0 < many) : ∃ xs' : List Int, ∃ r : Nat, r < many ∧ m_l_law_take [L xs, .int many] = .ok (.int r) [L xs', .int many] := by
  rcases List.eq_nil_or_concat xs with rfl | ⟨ys, y, rfl⟩
  · exact ⟨[], 0, h, take0 many⟩
  · have h1 := Int.fmod_nonneg_of_pos y (show (0 : Int) < many by omega)
    have h2 := Int.fmod_lt_of_pos y (show (0 : Int) < many by omega)
    refine ⟨ys, (y.fmod many).toNat, by omega, ?_⟩
    rw [List.concat_eq_append, take1 ys y many (by omega), Int.toNat_of_nonneg h1]
theorem ink (i k : Int) (h : 0 ≤ i) (h2 : i < k) : ∃ n : Nat, (n : Int) < k ∧ i = n := ⟨i.toNat, by omega, by omega⟩
theorem lx1 (ns d : List Int) (s k c r a : Int) (hd : d.length < 16777216) : dSs c_l_law_deck lx_l_law_deck_1 [.scr ns, .int 40, .int 14, L d, .int s, .int k, .int c, .int r, .int a] = .nx [.scr ns, .int 40, .int 14, L (d ++ [r.fmod 1000003]), .int s, .int k, .int c, .int (r.fdiv 1000003), .int a] := by
  simp [lx_l_law_deck_1, dF, small64_eq, hd]
theorem lx2 (ns d : List Int) (s k c r a : Int) (hd : d.length < 16777216) : ∃ s' v, dSs c_l_law_deck lx_l_law_deck_2 [.scr ns, .int 40, .int 14, L d, .int s, .int k, .int c, .int r, .int a] = .nx [.scr ns, .int 40, .int 14, L (d ++ [v]), .int s', .int k, .int c, .int r, .int a] := by
  simp [lx_l_law_deck_2, dF, small64_eq, hd]
theorem setlen {ρ : Env} {i : Nat} {x : D} : (ρ.set i x).length = ρ.length := by simp
/-- the inner loops -/
theorem in1 (ns d : List Int) (s k c r : Int) (a0 : D) (hd : d.length + 14 < 16777216) : ∃ d' r' a, d'.length = d.length + 14 ∧ loopF (turnF c_l_law_deck (.var 8) lx_l_law_deck_1) (rngL 0 14) [.scr ns, .int 40, .int 14, L d, .int s, .int k, .int c, .int r, a0] = .nx [.scr ns, .int 40, .int 14, L d', .int s, .int k, .int c, .int r', a] := by
  obtain ⟨ρ, e, d', r', a, h1, h2⟩ := loop_rng (turn := turnF c_l_law_deck (.var 8) lx_l_law_deck_1) (fun j ρ => ∃ d' r' a, d'.length = d.length + j ∧ ρ = [.scr ns, .int 40, .int 14, L d', .int s, .int k, .int c, .int r', a]) 14 ⟨d, r, a0, rfl, rfl⟩ (by
    rintro j _ hj ⟨d', r', a, h, rfl⟩
    refine ⟨_, ?_, d' ++ [r'.fmod 1000003], r'.fdiv 1000003, .int j, ?_, rfl⟩
    · rw [turnF_var]
      simpa using lx1 ns d' s k c r' j (by omega)
    · simp; omega)
  exact ⟨d', r', a, h1, by rw [e, h2]⟩
theorem in2 (ns d : List Int) (s k c r : Int) (a0 : D) (hd : d.length + 14 < 16777216) : ∃ d' s' a, d'.length = d.length + 14 ∧ loopF (turnF c_l_law_deck (.var 8) lx_l_law_deck_2) (rngL 0 14) [.scr ns, .int 40, .int 14, L d, .int s, .int k, .int c, .int r, a0] = .nx [.scr ns, .int 40, .int 14, L d', .int s', .int k, .int c, .int r, a] := by
  obtain ⟨ρ, e, d', r', a, h1, h2⟩ := loop_rng (turn := turnF c_l_law_deck (.var 8) lx_l_law_deck_2) (fun j ρ => ∃ d' s' a, d'.length = d.length + j ∧ ρ = [.scr ns, .int 40, .int 14, L d', .int s', .int k, .int c, .int r, a]) 14 ⟨d, s, a0, rfl, rfl⟩ (by
    rintro j _ hj ⟨d', r', a, h, rfl⟩
    obtain ⟨s', v, e⟩ := lx2 ns d' r' k c r j (by omega)
    refine ⟨_, ?_, d' ++ [v], s', .int j, ?_, rfl⟩
    · rw [turnF_var]
      simpa using e
    · simp; omega)
  exact ⟨d', r', a, h1, by rw [e, h2]⟩
theorem lx3 (ns d : List Int) (s : Int) (k : Nat) (c r a : D) (hd : d.length + 14 < 16777216) : ∃ d' s' c' r' a', d'.length = d.length + 14 ∧ dSs c_l_law_deck lx_l_law_deck_3 [.scr ns, .int 40, .int 14, L d, .int s, .int k, c, r, a] = .nx [.scr ns, .int 40, .int 14, L d', .int s', .int k, .int c', .int r', a'] := by
  have key : ∀ c' : Int, ∃ d' s' r' a', d'.length = d.length + 14 ∧ dSs c_l_law_deck (match lx_l_law_deck_3 with | .cons _ (.cons _ x) => x | _ => .nil) [.scr ns, .int 40, .int 14, L d, .int s, .int k, .int c', r, a] = .nx [.scr ns, .int 40, .int 14, L d', .int s', .int k, .int c', .int r', a'] := by
    intro c'
    by_cases hb : (1000000000000000000000000000000 : Int) ≤ (if c' < 0 then -c' else c')
    · obtain ⟨d', r', a', h1, h2⟩ := in1 ns d s k c' (if c' < 0 then -c' else c') a hd
      exact ⟨d', s, r', a', h1, by simp [lx_l_law_deck_3, dF, small64_eq, hb, h2]⟩
    · obtain ⟨d', r', a', h1, h2⟩ := in2 ns d (Int.fmod (s * 48271 + 2 * (if c' < 0 then -c' else c') + (if c' < 0 then 1 else 0) + k) 2147483647) k c' (if c' < 0 then -c' else c') a hd
      exact ⟨d', r', (if c' < 0 then -c' else c'), a', h1, by simp [lx_l_law_deck_3, dF, small64_eq, hb, h2]⟩
  by_cases hk : k < ns.length
  · obtain ⟨d', s', r', a', h, e⟩ := key ns[k]
    refine ⟨d', s', ns[k], r', a', h, ?_⟩
    rw [← e]
    simp [lx_l_law_deck_3, hk]
  · obtain ⟨d', s', r', a', h, e⟩ := key 0
    refine ⟨d', s', 0, r', a', h, ?_⟩
    rw [← e]
    simp [lx_l_law_deck_3, hk]
theorem deck_ok (ns : List Int) : ∃ xs outs, m_l_law_deck [.scr ns, .int 40, .int 14] = .ok (L xs) outs := by
  obtain ⟨ρ, e, d', s', a, c, r, h1, h2⟩ := loop_rng (turn := turnF c_l_law_deck (.var 5) lx_l_law_deck_3) (ρ := [.scr ns, .int 40, .int 14, L [], .int (7 + ns.length), .gone, .gone, .gone, .gone]) (fun j ρ => ∃ d' s' k c r a, d'.length = 14 * j ∧ ρ = [.scr ns, .int 40, .int 14, L d', .int s', k, c, r, a]) 40 ⟨[], _, _, _, _, _, rfl, rfl⟩ (by
    rintro j _ hj ⟨d', s', k, c, r, a, h, rfl⟩
    obtain ⟨d2, s2, c2, r2, a2, h2, e⟩ := lx3 ns d' s' j c r a (by omega)
    refine ⟨_, ?_, d2, s2, .int j, .int c2, .int r2, a2, by omega, rfl⟩
    rw [turnF_var]
    simpa using e)
  obtain ⟨a2, h1, rfl⟩ := h2
  simp only [L, List.map_nil] at e
  exact ⟨d'.reverse, _, by simp [m_l_law_deck, b_l_law_deck, dF, small64_eq, e]; rfl⟩
theorem edges_ok (xs : List Int) (v most : Nat) (hv : 0 < v) (hm : most < 1000) : ∃ es xs', m_l_law_edges [L xs, .int v, .int most] = .ok (.lst true (Ed es)) [L xs', .int v, .int most] ∧ es.length ≤ most ∧ inR v es := by
  obtain ⟨xs1, r, hr, e1⟩ := take_ok xs (most + 1) (by omega)
  rw [show ((most + 1 : Nat) : Int) = (most : Int) + 1 by simp] at e1
  obtain ⟨ys, o', e, xs', es, h1, h2, h3, h4⟩ := comp_rng (turn := turnC c_l_law_edges (.var 3) [3] .nil ex_l_law_edges_1) (ρ := [L xs1, .int v, .int most, .gone]) (fun j ρ acc => ∃ xs' es, ρ = [L xs', .int v, .int most, .gone] ∧ acc = Ed es ∧ es.length = j ∧ inR v es) r ⟨xs1, [], rfl, rfl, rfl, by simp [inR]⟩ (by
    rintro j _ _ hj ⟨xs', es, rfl, rfl, h3, h4⟩
    obtain ⟨x2, a, ha, ea⟩ := take_ok xs' v hv
    obtain ⟨x3, b, hb, eb⟩ := take_ok x2 v hv
    refine ⟨[en (a, b)], some [L x3, .int v, .int most, .gone], ?_, x3, es ++ [(a, b)], rfl, by simp, by simp [h3], ?_⟩
    · simp [turnC_var, ex_l_law_edges_1, ea, eb, dF, small64_eq]
    · intro e he
      rcases List.mem_append.1 he with h | h
      · exact h4 e h
      · simp at h; simp [h, ha, hb])
  refine ⟨es, xs', ?_, by omega, h4⟩
  have hl : es.length ≤ 16777216 := by omega
  have hr3 : okR (r : Int) = true := okR_nat r (by omega)
  have hr2 : ((r : Int) ≤ 1000) := by omega
  rw [h2] at e

  cases o' with
  | none =>
    simp at h1
    simp [m_l_law_edges, b_l_law_edges, dF, small64_eq, e1, hr3, e, hl, h1]
  | some r =>
    simp at h1
    simp [m_l_law_edges, b_l_law_edges, dF, small64_eq, e1, hr3, e, hl, h1]
abbrev G (v : Nat) (es : List (Nat × Nat)) : D := .ins false 0 [0, 1] [.int v, .tup (Ed es)]
theorem init_turn (g : D) (v : Nat) (a b : Nat) (x y : D) (ha : a < v) (hb : b < v) : turnF c_Graph___init__ (.tup (.cons (.var 3) (.cons (.var 4) .nil))) lx_Graph___init___2 (en (a, b)) [g, .int v, .gone, x, y] = .nx [g, .int v, .gone, .int a, .int b] := by
  rw [en, turnF_two]
  simp [lx_Graph___init___2, ha, hb]
theorem init_comp (g : D) (v : Nat) (es : List (Nat × Nat)) : compL (turnC c_Graph___init__ (.tup (.cons (.var 3) (.cons (.var 4) .nil))) [3, 4] .nil ex_Graph___init___1) (Ed es) [g, .int v, .gone, .gone, .gone] none = .ok (Ed es, none) := by
  refine comp_one (turn := turnC c_Graph___init__ (.tup (.cons (.var 3) (.cons (.var 4) .nil))) [3, 4] .nil ex_Graph___init___1) en en ?_
  rintro ⟨a, b⟩ _
  rw [en, turnC_two]
  simp [ex_Graph___init___1]
theorem init_ok (v : Nat) (d : D) (es : List (Nat × Nat)) (hd : (∃ o, d = .lst o (Ed es)) ∨ d = .tup (Ed es)) (h : inR v es) (hl : es.length ≤ 1000) : m_Graph___init__ [.ins true 0 [] [], .int v, d] = .ok .non [.ins true 0 [0, 1] [.int v, .tup (Ed es)], .int v, d] := by
  obtain ⟨ρ, e, x, y, hxy, rfl⟩ := loop_keep (turn := turnF c_Graph___init__ (.tup (.cons (.var 3) (.cons (.var 4) .nil))) lx_Graph___init___2) en (fun ρ => ∃ x y, ((x = .gone ∧ y = .gone) ∨ (∃ i j, x = .int i ∧ y = .int j)) ∧ ρ = [.ins true 0 [] [], .int v, .gone, x, y]) es [.ins true 0 [] [], .int v, .gone, .gone, .gone] ⟨.gone, .gone, .inl ⟨rfl, rfl⟩, rfl⟩ (by
    rintro ⟨a, b⟩ _ hx ⟨x, y, _, rfl⟩
    obtain ⟨ha, hb⟩ := h _ hx
    exact ⟨_, init_turn _ v a b x y ha hb, .int a, .int b, .inr ⟨a, b, rfl, rfl⟩, rfl⟩)
  have hc := init_comp (.ins true 0 [0] [.int v]) v es
  have hl2 : es.length ≤ 16777216 := by omega
  simp only [Ed] at e hc
  rcases hxy with ⟨rfl, rfl⟩ | ⟨i, j, rfl, rfl⟩ <;> rcases hd with ⟨o, rfl⟩ | rfl <;> simp [m_Graph___init__, b_Graph___init__, dF, small64_eq, e, hc, hl2, storeF, putF]
theorem init_bad (v : Nat) (o : Bool) (es : List (Nat × Nat)) (h : inR v es) (x y : Int) (hxy : ¬ (0 ≤ x ∧ x < v) ∨ ¬ (0 ≤ y ∧ y < v)) : m_Graph___init__ [.ins true 0 [] [], .int v, .lst o (Ed es ++ [.tup [.int x, .int y]])] = .exc 1 (.str "edges") := by
  obtain ⟨ρ, e⟩ := loop_exc (turn := turnF c_Graph___init__ (.tup (.cons (.var 3) (.cons (.var 4) .nil))) lx_Graph___init___2) en (fun ρ => ∃ x y, ρ = [.ins true 0 [] [], .int v, .gone, x, y]) (.tup [.int x, .int y]) 1 (.str "edges") es [] [.ins true 0 [] [], .int v, .gone, .gone, .gone] ⟨.gone, .gone, rfl⟩ (by
    rintro ⟨a, b⟩ _ hx ⟨x, y, rfl⟩
    obtain ⟨ha, hb⟩ := h _ hx
    exact ⟨_, init_turn _ v a b x y ha hb, .int a, .int b, rfl⟩) (by
    rintro _ ⟨p, q, rfl⟩
    rw [turnF_two]
    refine ⟨[.ins true 0 [] [], .int v, .gone, .int x, .int y], ?_⟩
    by_cases h1 : 0 ≤ x <;> by_cases h2 : x < v <;> by_cases h3 : 0 ≤ y <;> by_cases h4 : y < v <;> first | (exfalso; omega) | simp [lx_Graph___init___2, h1, h2, h3, h4])
  simp [m_Graph___init__, b_Graph___init__, dF, small64_eq, e]
theorem init_neg (v : Int) (d : D) (hv : v < 0) : m_Graph___init__ [.ins true 0 [] [], .int v, d] = .exc 1 (.str "vertices") := by
  simp [m_Graph___init__, b_Graph___init__, dF, small64_eq, hv]
/-- data that `plain` is asked for, of depth up to n -/
def gd : Nat → D → Bool
  | _, .bl _ => true
  | _, .int _ => true
  | n + 1, .tup xs => decide (xs.length ≤ 1000) && xs.all (gd n)
  | n + 1, .lst _ xs => decide (xs.length ≤ 1000) && xs.all (gd n)
  | _, _ => false
def pv : Nat → D → D
  | _, .non => .str "None"
  | _, .bl b => .str (if b then "True" else "False")
  | _, .int i => .lst false [.bl false, .int i]
  | n + 1, .tup xs => .lst false (.bl false :: xs.map (pv n))
  | n + 1, .lst _ xs => .lst false (.bl true :: xs.map (pv n))
  | _, _ => .gone
def ow : D → D
  | .lst _ xs => .lst true xs
  | d => d
theorem gd_fz (n : Nat) : ∀ d, gd n d = true → gd n (fz d) = true ∧ sh (fz d) = true ∧ fzable d = true ∧ pv n (fz d) = pv n d := by
  induction n with
  | zero =>
    intro d h
    cases d <;> simp [gd] at h <;> simp [gd, pv]
  | succ n ih =>
    have key : ∀ xs : List D, xs.all (gd n) = true → (fzL xs).all (gd n) = true ∧ shL (fzL xs) = true ∧ fzableL xs = true ∧ (fzL xs).map (pv n) = xs.map (pv n) := by
      intro xs
      induction xs with
      | nil => intro _; simp
      | cons x xs ihx =>
        intro h
        simp only [List.all_cons, Bool.and_eq_true] at h
        obtain ⟨a1, a2, a3, a4⟩ := ih x h.1
        obtain ⟨b1, b2, b3, b4⟩ := ihx h.2
        simp [a1, a2, a3, a4, b1, b2, b3, b4]
    intro d h
    cases d with
    | tup xs =>
      simp only [gd, Bool.and_eq_true, decide_eq_true_eq] at h
      obtain ⟨b1, b2, b3, b4⟩ := key xs h.2
      have : (fzL xs).length = xs.length := by rw [fz_shL]; simp
      simp [gd, pv, b1, b2, b3, b4, this, h.1]
    | lst o xs =>
      simp only [gd, Bool.and_eq_true, decide_eq_true_eq] at h
      obtain ⟨b1, b2, b3, b4⟩ := key xs h.2
      have : (fzL xs).length = xs.length := by rw [fz_shL]; simp
      simp [gd, pv, b1, b2, b3, b4, this, h.1]
    | bl b => simp [gd, pv]
    | int i => simp [gd, pv]
    | _ => simp [gd] at h
@[simp] theorem ok_None : strOk (PySem.Str.ofString "None") = true := by decide +kernel
@[simp] theorem ok_True : strOk (PySem.Str.ofString "True") = true := by decide +kernel
@[simp] theorem ok_False : strOk (PySem.Str.ofString "False") = true := by decide +kernel
theorem str_refl (s : PySem.Str) : (s == s) = true := by simp
theorem pv_ok (n : Nat) : ∀ d, gd n d = true → sh (pv n d) = true ∧ fz (ow (pv n d)) = pv n d ∧ fzable (ow (pv n d)) = true ∧ eqD (ow (pv n d)) (ow (pv n d)) = true ∧ eqD (pv n d) (pv n d) = true ∧ ∀ k, okD (n + 1 + k) (pv n d) = true := by
  induction n with
  | zero =>
    intro d h
    cases d with
    | bl b => cases b <;> simp [pv, ow]
    | int i =>
      refine ⟨by simp [pv], by simp [pv, ow], by simp [pv, ow], by simp [pv, ow], by simp [pv], fun k => ?_⟩
      rw [show 0 + 1 + k = k + 1 by omega]
      simp [pv]
    | _ => simp [gd] at h <;> simp [pv, ow]
  | succ n ih =>
    have key : ∀ xs : List D, xs.all (gd n) = true → shL (xs.map (pv n)) = true ∧ eqL (xs.map (pv n)) (xs.map (pv n)) = true ∧ ∀ k, okL (n + 1 + k) (xs.map (pv n)) = true := by
      intro xs
      induction xs with
      | nil => intro _; simp
      | cons x xs ihx =>
        intro h
        simp only [List.all_cons, Bool.and_eq_true] at h
        obtain ⟨a1, a2, a3, a4, a5, a6⟩ := ih x h.1
        obtain ⟨b1, b2, b3⟩ := ihx h.2
        simp [a1, a5, a6, b1, b2, b3]
    have key2 : ∀ (b : Bool) (xs : List D), xs.all (gd n) = true → sh (.lst false (.bl b :: xs.map (pv n))) = true ∧ fz (.lst true (.bl b :: xs.map (pv n))) = .lst false (.bl b :: xs.map (pv n)) ∧ fzable (.lst true (.bl b :: xs.map (pv n))) = true ∧ eqD (.lst true (.bl b :: xs.map (pv n))) (.lst true (.bl b :: xs.map (pv n))) = true ∧ eqD (.lst false (.bl b :: xs.map (pv n))) (.lst false (.bl b :: xs.map (pv n))) = true ∧ ∀ k, okD (n + 1 + 1 + k) (.lst false (.bl b :: xs.map (pv n))) = true := by
      intro b xs h
      obtain ⟨b1, b2, b3⟩ := key xs h
      refine ⟨by simp [b1], by simp [fzL_of_sh _ b1], by simp [fzableL_of_sh _ b1], by simp [b2], by simp [b2], fun k => ?_⟩
      rw [show n + 1 + 1 + k = (n + 1 + k) + 1 by omega, okD_lst]
      simp [b3]
    intro d h
    cases d with
    | tup xs =>
      simp only [gd, Bool.and_eq_true, decide_eq_true_eq] at h
      exact key2 false xs h.2
    | lst o xs =>
      simp only [gd, Bool.and_eq_true, decide_eq_true_eq] at h
      exact key2 true xs h.2
    | bl b => cases b <;> simp [pv, ow]
    | int i =>
      refine ⟨by simp [pv], by simp [pv, ow], by simp [pv, ow], by simp [pv, ow], by simp [pv], fun k => ?_⟩
      rw [show n + 1 + 1 + k = (n + 1 + k) + 1 by omega]
      simp [pv]
    | _ => simp [gd] at h
theorem soft_lst_fz (o : Bool) (xs : List D) (h : fzableL xs = true) : (shL xs = true ∧ soft (.lst o xs) = some (.lst o (fzL xs))) ∨ soft (.lst o xs) = some (.lst false (fzL xs)) := by
  rw [soft_lst]
  cases hs : shL xs with
  | true => left; simp [fzL_of_sh xs hs]
  | false => right; simp [h]
theorem fzL_sh : ∀ xs : List D, fzableL xs = true → shL (fzL xs) = true := by
  have key : ∀ n : Nat, (∀ d : D, sizeOf d < n → fzable d = true → sh (fz d) = true) ∧ ∀ xs : List D, sizeOf xs < n → fzableL xs = true → shL (fzL xs) = true := by
    intro n
    induction n with
    | zero => exact ⟨fun d h => by omega, fun d h => by omega⟩
    | succ n ih =>
      obtain ⟨i1, i2⟩ := ih
      refine ⟨fun d hd h => ?_, fun xs hd h => ?_⟩
      · cases d with
        | tup xs => simp at hd h; simp [i2 xs (by omega) h]
        | lst o xs => simp at hd h; simp [i2 xs (by omega) h]
        | dct o k ks xs => simp at hd h; simp [i2 xs (by omega) h]
        | ins o k ks xs => simp at hd h; simp [i2 xs (by omega) h]
        | gone => simp [fzable] at h
        | _ => simp
      · cases xs with
        | nil => rfl
        | cons x xs =>
          simp at hd h
          simp [i1 x (by omega) h.1, i2 xs (by omega) h.2]
  intro xs h
  exact (key (sizeOf xs + 1)).2 xs (by omega) h
theorem plain_seq (n : Nat) (ih : ∀ d, gd n d = true → ∃ x', r_l_law_plain (n + 1) [d] = .ok (ow (pv n d)) [x']) (xs : List D) (h : xs.all (gd n) = true) (hl : xs.length ≤ 1000) : ∃ ys, compL (turnC (c_l_law_plain (r_l_law_plain (n + 1))) (.var 1) [1] .nil ex_l_law_plain_1) (fzL xs) [.gone, .gone] none = .ok (ys, none) ∧ ys.length = xs.length ∧ fzableL ys = true ∧ fzL ys = xs.map (pv n) := by
  refine ⟨xs.map fun x => ow (pv n x), ?_, by simp, ?_, ?_⟩
  · rw [fz_shL]
    refine comp_one (turn := turnC (c_l_law_plain (r_l_law_plain (n + 1))) (.var 1) [1] .nil ex_l_law_plain_1) fz _ ?_
    intro x hx
    have hg := List.all_eq_true.1 h x hx
    obtain ⟨a1, a2, a3, a4⟩ := gd_fz n x hg
    obtain ⟨x', e⟩ := ih (fz x) a1
    rw [a4] at e
    rw [turnC_var]
    have hng : fz x ≠ .gone := by intro z; rw [z] at a2; simp at a2
    cases hfx : fz x <;> first | (exact absurd hfx hng) | skip
    all_goals
      rw [hfx] at e a2
      simp [ex_l_law_plain_1, e, -sh_tup, -sh_lst, -sh_dct, -sh_ins, a2]
  · clear ih hl
    induction xs with
    | nil => rfl
    | cons x xs ihx =>
      simp only [List.all_cons, Bool.and_eq_true] at h
      simp [(pv_ok n x h.1).2.2.1, ihx h.2]
  · clear ih hl
    induction xs with
    | nil => rfl
    | cons x xs ihx =>
      simp only [List.all_cons, Bool.and_eq_true] at h
      simp [(pv_ok n x h.1).2.1, ihx h.2]
theorem r_step (n : Nat) : r_l_law_plain (n + 1) = dF (c_l_law_plain (r_l_law_plain n)) b_l_law_plain := rfl
theorem plain_scalar (n m : Nat) (d : D) (h : gd 0 d = true) : r_l_law_plain (n + 1) [d] = .ok (ow (pv m d)) [d] := by
  cases d with
  | bl b => cases m <;> cases b <;> simp [r_l_law_plain, b_l_law_plain, dF, small64_eq, isTy, tyD, tyEq, pv, ow, place, itemD]
  | int i => cases m <;> simp [r_l_law_plain, b_l_law_plain, dF, small64_eq, isTy, tyD, tyEq, pv, ow, place, itemD]
  | _ => simp [gd] at h
theorem plain_ok (n : Nat) : ∀ d, gd n d = true → ∃ x', r_l_law_plain (n + 1) [d] = .ok (ow (pv n d)) [x'] := by
  induction n with
  | zero => intro d h; exact ⟨d, plain_scalar 0 0 d h⟩
  | succ n ih =>
    intro d h
    have fin : ∀ (b : Bool) (xs ys : List D), xs.all (gd n) = true → ys.length = xs.length → fzableL ys = true → fzL ys = xs.map (pv n) → binD .add (.lst true [.bl b]) (.lst true (fzL ys)) = none ∨ True := fun _ _ _ _ _ _ _ => .inr trivial
    cases d with
    | tup xs =>
      have h' := h
      simp only [gd, Bool.and_eq_true, decide_eq_true_eq] at h
      obtain ⟨ys, e, h1, h2, h3⟩ := plain_seq n ih xs h.2 h.1
      have hz := fzL_sh ys h2
      have hl1 : ys.length ≤ 16777216 := by omega
      have hl2 : 1 + ys.length ≤ 16777216 := by omega
      have hl4 : ys.length + 1 ≤ 16777216 := by omega
      have hz2 : shL (xs.map (pv n)) = true := h3 ▸ hz
      have hl5 : 1 + xs.length ≤ 16777216 := by omega
      have hl6 : xs.length ≤ 16777216 := by omega
      have hl3 : (fzL ys).length = ys.length := by rw [h3]; simp [h1]
      obtain ⟨_, a2, a3, _⟩ := gd_fz (n + 1) (.tup xs) h'
      simp only [sh_tup, fz_tup, fzable_tup] at a2 a3
      cases hs : shL xs <;> cases hy : shL ys
      · refine ⟨.tup (fzL xs), ?_⟩
        rw [r_step (n + 1)]
        simp [b_l_law_plain, dF, small64_eq, isTy, tyD, tyEq, pv, ow, hs, a2, a3, e, hl1, hl2, hl3, hl4, hy, h2, h3, hz, hz2, hl5, hl6, h1]
      · rw [fzL_of_sh ys hy] at h3
        refine ⟨.tup (fzL xs), ?_⟩
        rw [r_step (n + 1)]
        simp [b_l_law_plain, dF, small64_eq, isTy, tyD, tyEq, pv, ow, hs, a2, a3, e, hl1, hl2, hl3, hl4, hy, h2, h3, hz, hz2, hl5, hl6, h1]
      · rw [fzL_of_sh xs hs] at e
        refine ⟨.tup xs, ?_⟩
        rw [r_step (n + 1)]
        simp [b_l_law_plain, dF, small64_eq, isTy, tyD, tyEq, pv, ow, hs, a2, a3, e, hl1, hl2, hl3, hl4, hy, h2, h3, hz, hz2, hl5, hl6, h1]
      · rw [fzL_of_sh xs hs] at e
        rw [fzL_of_sh ys hy] at h3
        refine ⟨.tup xs, ?_⟩
        rw [r_step (n + 1)]
        simp [b_l_law_plain, dF, small64_eq, isTy, tyD, tyEq, pv, ow, hs, a2, a3, e, hl1, hl2, hl3, hl4, hy, h2, h3, hz, hz2, hl5, hl6, h1]
    | lst o xs =>
      have h' := h
      simp only [gd, Bool.and_eq_true, decide_eq_true_eq] at h
      obtain ⟨ys, e, h1, h2, h3⟩ := plain_seq n ih xs h.2 h.1
      have hz := fzL_sh ys h2
      have hl1 : ys.length ≤ 16777216 := by omega
      have hl2 : 1 + ys.length ≤ 16777216 := by omega
      have hl4 : ys.length + 1 ≤ 16777216 := by omega
      have hz2 : shL (xs.map (pv n)) = true := h3 ▸ hz
      have hl5 : 1 + xs.length ≤ 16777216 := by omega
      have hl6 : xs.length ≤ 16777216 := by omega
      have hl3 : (fzL ys).length = ys.length := by rw [h3]; simp [h1]
      obtain ⟨_, a2, a3, _⟩ := gd_fz (n + 1) (.lst o xs) h'
      simp only [sh_lst, fz_lst, fzable_lst, Bool.and_eq_true] at a2 a3
      have a2 := a2.2
      cases hs : shL xs <;> cases hy : shL ys
      · refine ⟨.lst false (fzL xs), ?_⟩
        rw [r_step (n + 1)]
        simp [b_l_law_plain, dF, small64_eq, isTy, tyD, tyEq, pv, ow, hs, a2, a3, e, hl1, hl2, hl3, hl4, hy, h2, h3, hz, hz2, hl5, hl6, h1]
      · rw [fzL_of_sh ys hy] at h3
        refine ⟨.lst false (fzL xs), ?_⟩
        rw [r_step (n + 1)]
        simp [b_l_law_plain, dF, small64_eq, isTy, tyD, tyEq, pv, ow, hs, a2, a3, e, hl1, hl2, hl3, hl4, hy, h2, h3, hz, hz2, hl5, hl6, h1]
      · rw [fzL_of_sh xs hs] at e
        refine ⟨.lst o xs, ?_⟩
        rw [r_step (n + 1)]
        simp [b_l_law_plain, dF, small64_eq, isTy, tyD, tyEq, pv, ow, hs, a2, a3, e, hl1, hl2, hl3, hl4, hy, h2, h3, hz, hz2, hl5, hl6, h1]
      · rw [fzL_of_sh xs hs] at e
        rw [fzL_of_sh ys hy] at h3
        refine ⟨.lst o xs, ?_⟩
        rw [r_step (n + 1)]
        simp [b_l_law_plain, dF, small64_eq, isTy, tyD, tyEq, pv, ow, hs, a2, a3, e, hl1, hl2, hl3, hl4, hy, h2, h3, hz, hz2, hl5, hl6, h1]
    | bl b => exact ⟨_, plain_scalar (n + 1) (n + 1) _ rfl⟩
    | int i => exact ⟨_, plain_scalar (n + 1) (n + 1) _ rfl⟩
    | _ => simp [gd] at h
theorem plain_pair (d1 d2 : D) (h1 : gd 59 d1 = true) (h2 : gd 59 d2 = true) (e : pv 59 d1 = pv 59 d2) : ∃ p x1 x2, m_l_law_plain [d1] = .ok p [x1] ∧ m_l_law_plain [d2] = .ok p [x2] ∧ soft p = some p ∧ okD 64 p = true ∧ eqD p p = true ∧ p ≠ .gone := by
  obtain ⟨x1, e1⟩ := plain_ok 59 d1 h1
  obtain ⟨x2, e2⟩ := plain_ok 59 d2 h2
  rw [← e] at e2
  obtain ⟨a1, a2, a3, a4, a5, a6⟩ := pv_ok 59 d1 h1
  refine ⟨ow (pv 59 d1), x1, x2, e1, e2, ?_, ?_, a4, ?_⟩
  · cases hp : pv 59 d1 <;> rw [hp] at a1 <;> simp [ow] <;> simp at a1 <;> simp [a1]
  · have := a6 4
    cases hp : pv 59 d1 <;> rw [hp] at this <;> simp [ow] <;> first | exact this | simpa using this
  · cases hp : pv 59 d1 <;> rw [hp] at a1 <;> simp [ow]
    simp at a1
abbrev S2 (a b : String) : D := .tup [.str (PySem.Str.ofString a), .str (PySem.Str.ofString b)]
end k87
namespace k87
open Mp Mq
def upd (f : Nat → Nat) (e r : Nat) : Nat → Nat := fun x => if x = e then r else f x
theorem put_old {K : List Nat} {f : Nat → Nat} {e r : Nat} (nd : K.Nodup) (h : e ∈ K) (hl : K.length < 16777216) : putD (.dct true true (N K) (N (K.map f))) (.int e) (.int r) = some (.dct true true (N K) (N (K.map (upd f e r)))) := by
  have hf := findD_N e K
  simp only [h, if_true, N] at hf
  have hs := set_idx (fun x => D.int ((f x : Nat) : Int)) (.int (r : Int)) e K nd
  have : (N (K.map f)).set (K.idxOf e) (.int (r : Int)) = N (K.map (upd f e r)) := by
    simp only [N, List.map_map, Function.comp_def]
    rw [hs]
    apply List.map_congr_left
    intro x _
    by_cases hx : x = e <;> simp [upd, hx]
  simp only [N] at this
  simp only [putD, N, hf, keyOk, if_true, List.length_map, lt_line, hl, decide_true]
  rw [this]
theorem put_new {K : List Nat} {f : Nat → Nat} {e r : Nat} (h : e ∉ K) (hl : K.length < 16777216) : putD (.dct true true (N K) (N (K.map f))) (.int e) (.int r) = some (.dct true true (N (K ++ [e])) (N ((K ++ [e]).map (upd f e r)))) := by
  have hf := findD_N e K
  simp only [h, if_false, N] at hf
  have : (K.map (upd f e r)) = K.map f := by
    apply List.map_congr_left
    intro x hx
    have : x ≠ e := fun z => h (z ▸ hx)
    simp [upd, this]
  simp only [putD, N, hf, keyOk, if_true, List.length_map, lt_line, hl, decide_true, List.map_append, List.map_cons, List.map_nil, this]
  simp [upd]
def addK (K : List Nat) (e : Nat) : List Nat := if e ∈ K then K else K ++ [e]
theorem mem_addK {K : List Nat} {e x : Nat} : x ∈ addK K e ↔ x ∈ K ∨ x = e := by
  unfold addK
  by_cases h : e ∈ K
  · simp only [h, if_true]
    constructor
    · exact .inl
    · rintro (h2 | rfl)
      · exact h2
      · exact h
  · simp [h]
theorem nd_addK {K : List Nat} (h : K.Nodup) (e : Nat) : (addK K e).Nodup := by
  unfold addK
  by_cases he : e ∈ K
  · simp [he, h]
  · simp only [he, if_false]
    rw [List.nodup_append]
    refine ⟨h, by simp, ?_⟩
    rintro a ha b hb rfl
    simp at hb
    exact he (hb ▸ ha)
theorem len_addK (K : List Nat) (e : Nat) : (addK K e).length ≤ K.length + 1 := by
  unfold addK; split <;> simp
theorem put_ok {K : List Nat} {f : Nat → Nat} {e r : Nat} (nd : K.Nodup) (hl : K.length < 16777216) : putD (.dct true true (N K) (N (K.map f))) (.int e) (.int r) = some (.dct true true (N (addK K e)) (N ((addK K e).map (upd f e r)))) := by
  unfold addK
  by_cases h : e ∈ K
  · simp only [h, if_true]; exact put_old nd h hl
  · simp only [h, if_false]; exact put_new h hl
abbrev Bd (Kb : List Nat) (fb : Nat → Nat) : D := .dct true true (N Kb) (N (Kb.map fb))
theorem loopW_go {test : Env → R (Bool × Option Env)} {body : Env → SR} {n : Nat} {ρ ρ' : Env} (h : test ρ = .ok (true, none)) (hb : body ρ = .nx ρ') : loopW test body (n + 1) ρ = loopW test body n ρ' := by
  show ((test ρ).then _) = _
  rw [h]
  simp only [then_ok, Mq.now_none]
  rw [hb]
theorem loopW_end {test : Env → R (Bool × Option Env)} {body : Env → SR} {n : Nat} {ρ : Env} (h : test ρ = .ok (false, none)) : loopW test body (n + 1) ρ = .nx ρ := by
  show ((test ρ).then _) = _
  rw [h]
  simp only [then_ok, Mq.now_none]
theorem loopW_ret {test : Env → R (Bool × Option Env)} {body : Env → SR} {n : Nat} {ρ ρ' : Env} {d : D} (h : test ρ = .ok (true, none)) (hb : body ρ = .ret d ρ') : loopW test body (n + 1) ρ = .ret d ρ' := by
  show ((test ρ).then _) = _
  rw [h]
  simp only [then_ok, Mq.now_none]
  rw [hb]
theorem nodup_le : ∀ (l m : List Nat), l.Nodup → (∀ x ∈ l, x ∈ m) → l.length ≤ m.length
  | [], _, _, _ => Nat.zero_le _
  | x :: l, m, h, k => by
    have hx := k x (by simp)
    have h2 := List.nodup_cons.1 h
    have := nodup_le l (m.erase x) h2.2 fun y hy => (List.mem_erase_of_ne (fun (z : y = x) => h2.1 (z ▸ hy))).2 (k y (by simp [hy]))
    rw [List.length_erase_of_mem hx] at this
    have : 0 < m.length := List.length_pos_of_mem hx
    simp only [List.length_cons]
    omega
abbrev Ts (ks : List Nat) : D := .dct true true (N ks) (ks.map fun _ => .bl true)
theorem put_true (ks : List Nat) (k : Nat) (hl : ks.length < 1000) : putD (Ts ks) (.int k) (.bl true) = some (Ts (addK ks k)) := by
  have hf := findD_N k ks
  have hl2 : ks.length < 16777216 := by omega
  unfold addK
  by_cases h : k ∈ ks
  · simp only [h, if_true, N] at hf ⊢
    have hi : ks.idxOf k < ks.length := List.idxOf_lt_length_iff.2 h
    have : (ks.map fun _ => D.bl true).set (ks.idxOf k) (.bl true) = ks.map fun _ => D.bl true := by
      apply List.ext_getElem?
      intro j
      by_cases e : ks.idxOf k = j
      · subst e; simp [hi]
      · simp [List.getElem?_set, e]
    simp only [putD, Ts, N, hf, keyOk, if_true, List.length_map, lt_line, hl2, decide_true, this]
  · simp only [h, if_false, N] at hf ⊢
    simp only [putD, Ts, N, hf, keyOk, if_true, List.length_map, lt_line, hl2, decide_true, List.map_append, List.map_cons, List.map_nil]
theorem fold_mem (xs : List Nat) : ∀ (ks : List Nat) (x : Nat), x ∈ xs.foldl addK ks ↔ x ∈ ks ∨ x ∈ xs := by
  induction xs with
  | nil => intro ks x; simp
  | cons y xs ih =>
    intro ks x
    simp only [List.foldl_cons, ih, mem_addK, List.mem_cons, or_assoc]
theorem fold_nd (xs : List Nat) : ∀ (ks : List Nat), ks.Nodup → (xs.foldl addK ks).Nodup := by
  induction xs with
  | nil => intro ks h; exact h
  | cons y xs ih => intro ks h; exact ih _ (nd_addK h y)
theorem fold_le (xs : List Nat) (n : Nat) (ks : List Nat) (h : (xs.foldl addK ks).length ≤ n) : ∀ i, ((xs.take i).foldl addK ks).length ≤ n := by
  have mono : ∀ (xs ks : List Nat), ks.length ≤ (xs.foldl addK ks).length := by
    intro xs
    induction xs with
    | nil => intro ks; exact Nat.le_refl _
    | cons y xs ih =>
      intro ks
      refine Nat.le_trans ?_ (ih (addK ks y))
      unfold addK; split <;> simp
  intro i
  refine Nat.le_trans ?_ h
  have : xs.foldl addK ks = (xs.drop i).foldl addK ((xs.take i).foldl addK ks) := by rw [← List.foldl_append, List.take_append_drop]
  rw [this]
  exact mono _ _
def srt (ks : List Nat) : List Nat := (sortI (ks.map fun n : Nat => (n : Int))).map Int.toNat
theorem srt_cast (ks : List Nat) : (srt ks).map (fun n : Nat => (n : Int)) = sortI (ks.map fun n : Nat => (n : Int)) := by
  unfold srt
  rw [List.map_map]
  conv => rhs; rw [← List.map_id (sortI _)]
  apply List.map_congr_left
  intro x hx
  rw [mem_sortI, mem_cast] at hx
  obtain ⟨k, _, rfl⟩ := hx
  simp
theorem N_srt (ks : List Nat) : N (srt ks) = (sortI (ks.map fun n : Nat => (n : Int))).map D.int := by
  rw [← srt_cast, List.map_map]
  rfl
theorem mem_srt (ks : List Nat) (x : Nat) : x ∈ srt ks ↔ x ∈ ks := by
  have h : (x : Int) ∈ (srt ks).map (fun n : Nat => (n : Int)) ↔ (x : Int) ∈ ks.map fun n : Nat => (n : Int) := by rw [srt_cast, mem_sortI]
  simpa using h
theorem len_srt (ks : List Nat) : (srt ks).length = ks.length := by
  have := congrArg List.length (srt_cast ks)
  simpa [sort_len] using this
theorem insI_head (x : Int) : ∀ (l : List Int), (∀ y ∈ l, x < y) → insI x l = x :: l
  | [], _ => rfl
  | y :: l, h => by
    have := h y (by simp)
    simp [insI, Int.le_of_lt this]
theorem sorted_asc : ∀ l : List Int, (sortI l).Pairwise (· ≤ ·)
  | [] => by simp [sortI]
  | x :: l => by
    have ins : ∀ (x : Int) (l : List Int), l.Pairwise (· ≤ ·) → (insI x l).Pairwise (· ≤ ·) := by
      intro x l
      induction l with
      | nil => intro _; simp [insI]
      | cons y l ih =>
        intro h
        have h2 := List.pairwise_cons.1 h
        simp only [insI]
        split
        · rename_i hxy
          refine List.pairwise_cons.2 ⟨fun z hz => ?_, h⟩
          rcases List.mem_cons.1 hz with rfl | hz
          · exact hxy
          · exact Int.le_trans hxy (h2.1 z hz)
        · rename_i hxy
          refine List.pairwise_cons.2 ⟨fun z hz => ?_, ih h2.2⟩
          rw [mem_insI] at hz
          rcases hz with rfl | hz
          · omega
          · exact h2.1 z hz
    exact ins x _ (sorted_asc l)
theorem sort_of_asc : ∀ l : List Int, l.Pairwise (· < ·) → sortI (dedI l) = l
  | [], _ => rfl
  | x :: l, h => by
    have h2 := List.pairwise_cons.1 h
    have hn : l.contains x = false := by
      rw [Bool.eq_false_iff]
      intro z
      have := h2.1 x (by simpa using z)
      omega
    simp only [dedI, hn, Bool.false_eq_true, if_false, sortI]
    rw [sort_of_asc l h2.2]
    exact insI_head x l h2.1
theorem asc_of_sort (l : List Int) (h : l = sortI (dedI l)) : l.Pairwise (· < ·) := by
  have h1 := sorted_asc (dedI l)
  rw [← h] at h1
  have h2 : l.Nodup := by
    rw [h]
    have hp : (sortI (dedI l)).Perm (dedI l) := by
      have : ∀ m : List Int, (sortI m).Perm m := by
        intro m
        induction m with
        | nil => exact .refl _
        | cons x m ih =>
          have ins : ∀ (x : Int) (l : List Int), (insI x l).Perm (x :: l) := by
            intro x l
            induction l with
            | nil => exact .refl _
            | cons y l ihl =>
              simp only [insI]
              split
              · exact .refl _
              · exact (ihl.cons y).trans (.swap x y l)
          exact (ins x _).trans (ih.cons x)
      exact this _
    exact hp.nodup_iff.2 (nodup_dedIQ l)
  exact (h1.and h2).imp fun ⟨a, b⟩ => by omega
theorem eqL_ints : ∀ (xs ys : List Int), eqL (xs.map D.int) (ys.map D.int) = decide (xs = ys)
  | [], [] => rfl
  | [], y :: ys => rfl
  | x :: xs, [] => rfl
  | x :: xs, y :: ys => by
    rw [List.map_cons, List.map_cons, eqL_cons, eqD_int, eqL_ints xs ys, Bool.eq_iff_iff]
    simp only [Bool.and_eq_true, decide_eq_true_eq, List.cons.injEq]
theorem minI_nn : ∀ (xs : List Int) (m : Int), 0 ≤ m → (∀ x ∈ xs, 0 ≤ x) → 0 ≤ minI m xs
  | [], m, h, _ => h
  | x :: xs, m, h, k => by
    simp only [minI]
    refine minI_nn xs _ ?_ fun y hy => k y (by simp [hy])
    have := k x (by simp)
    split <;> omega
abbrev Z (xs : List Nat) : List Int := xs.map fun n : Nat => (n : Int)
theorem N_Z (xs : List Nat) : N xs = (Z xs).map D.int := by simp [Function.comp_def]
theorem okL_ints (n : Nat) (xs : List Int) : okL n (xs.map D.int) = true := okL_of n (by simp)
theorem loop_all {α : Type} {turn : D → Env → SR} (enc : α → D) (p : α → Bool) (P : Env → Prop) (d : D) : ∀ (xs : List α) (ρ : Env), P ρ → (∀ x ρ, x ∈ xs → P ρ → ∃ ρ', turn (enc x) ρ = (if p x then .nx ρ' else .ret d ρ') ∧ P ρ') → ∃ ρ', loopF turn (xs.map enc) ρ = (if xs.all p then .nx ρ' else .ret d ρ') ∧ P ρ'
  | [], ρ, h, _ => ⟨ρ, rfl, h⟩
  | x :: xs, ρ, h, k => by
    obtain ⟨ρ1, e1, h1⟩ := k x ρ (by simp) h
    cases hp : p x with
    | false =>
      refine ⟨ρ1, ?_, h1⟩
      simp only [List.map_cons, List.all_cons, hp, Bool.false_and, Bool.false_eq_true, if_false] at e1 ⊢
      unfold loopF
      rw [e1]
    | true =>
      obtain ⟨ρ2, e2, h2⟩ := loop_all enc p P d xs ρ1 h1 fun y ρ hy h => k y ρ (by simp [hy]) h
      refine ⟨ρ2, ?_, h2⟩
      simp only [hp, if_true] at e1
      simp only [List.map_cons, List.all_cons, hp, Bool.true_and]
      unfold loopF
      rw [e1]
      exact e2
theorem dedI_nodup : ∀ l : List Int, l.Nodup → dedI l = l
  | [], _ => rfl
  | x :: l, h => by
    have h2 := List.nodup_cons.1 h
    have : l.contains x = false := by
      rw [Bool.eq_false_iff]
      intro z
      exact h2.1 (by simpa using z)
    simp only [dedI, this, Bool.false_eq_true, if_false, dedI_nodup l h2.2]
theorem filter_split (p : Nat → Bool) : ∀ l : List Nat, (l.filter p).length + (l.filter fun x => !p x).length = l.length
  | [] => rfl
  | x :: l => by
    have ih := filter_split p l
    cases h : p x <;> simp [h] <;> omega
theorem cut1 (xs : List D) : cut xs (some 1) none = xs.drop 1 := by
  unfold cut clampI
  simp
  cases xs with
  | nil => rfl
  | cons x xs => simp
theorem erase_map {α β : Type} (f : α → β) : ∀ (xs : List α) (n : Nat), (xs.map f).eraseIdx n = (xs.eraseIdx n).map f
  | [], n => by simp
  | x :: xs, 0 => by simp
  | x :: xs, n + 1 => by simp [erase_map f xs n]
theorem idx_some (v : Nat) : ∀ r : List Nat, v ∈ r → ∃ n, (r.map fun n : Nat => (n : Int)).idxOf? (v : Int) = some n
  | [], h => by simp at h
  | x :: r, h => by
    by_cases e : x = v
    · subst e
      exact ⟨0, by simp [List.idxOf?_cons]⟩
    · rcases List.mem_cons.1 h with h | h
      · exact absurd h.symm e
      obtain ⟨n, hn⟩ := idx_some v r h
      refine ⟨n + 1, ?_⟩
      have e2 : ((x : Int) == (v : Int)) = false := by simpa using e
      rw [List.map_cons, List.idxOf?_cons, e2, hn]
      rfl
theorem insI_perm (x : Int) : ∀ l : List Int, (insI x l).Perm (x :: l)
  | [] => List.Perm.refl _
  | y :: l => by
    simp only [insI]
    split
    · exact List.Perm.refl _
    · exact ((insI_perm x l).cons y).trans (List.Perm.swap x y l)
theorem sort_perm : ∀ l : List Int, (sortI l).Perm l
  | [] => List.Perm.refl _
  | x :: l => (insI_perm x _).trans ((sort_perm l).cons x)
theorem srt_lt (ks : List Nat) (nd : ks.Nodup) : (srt ks).Pairwise (· < ·) := by
  have h1 : (srt ks).map (fun n : Nat => (n : Int)) = sortI (ks.map fun n : Nat => (n : Int)) := srt_cast ks
  have h2 := sorted_asc (ks.map fun n : Nat => (n : Int))
  rw [← h1, List.pairwise_map] at h2
  have h3 : (srt ks).Nodup := by
    have hp : (sortI (ks.map fun n : Nat => (n : Int))).Nodup := (sort_perm _).nodup_iff.2 (nodup_cast nd)
    rw [← h1] at hp
    exact List.Pairwise.of_map _ (fun a b h z => h (by rw [z])) hp
  refine List.Pairwise.imp ?_ (List.Pairwise.and h2 h3)
  rintro a b ⟨x, y⟩
  have : a ≤ b := by simpa using x
  omega

end k87
namespace k87
open Mp Mq
abbrev I (xs : List Int) : List D := xs.map D.int
abbrev W := Nat × Option (Nat × Int × Nat)
def ev : Option (Nat × Int × Nat) → D
  | none => .non
  | some (e, s, u) => .tup [.int e, .int s, .int u]
abbrev ky (ws : List W) : List Nat := ws.map Prod.fst
abbrev Wd (ws : List W) : D := .dct true true (N (ky ws)) (ws.map fun w => ev w.2)
def Res (es : List (Nat × Nat)) (c f : List Int) (e : Nat) (s : Int) (u v : Nat) : Prop :=
  (s = 1 ∧ es[e]? = some (u, v) ∧ f.getD e 0 < c.getD e 0) ∨ (s = -1 ∧ es[e]? = some (v, u) ∧ 0 < f.getD e 0)
structure Ways (V : Nat) (es : List (Nat × Nat)) (c f : List Int) (st : Nat) (ws : List W) : Prop where
  hd : ws[0]? = some (st, none)
  nd : (ky ws).Nodup
  lk : ∀ i v o, ws[i]? = some (v, o) → 0 < i → ∃ e s u k, o = some (e, s, u) ∧ k < i ∧ (ky ws)[k]? = some u ∧ Res es c f e s u v
  lt : ∀ v ∈ ky ws, v < V
theorem Ways.push {V : Nat} {es : List (Nat × Nat)} {c f : List Int} {st : Nat} {ws : List W} (h : Ways V es c f st ws) {e : Nat} {s : Int} {u v : Nat} (hu : u ∈ ky ws) (hv : v ∉ ky ws) (hr : Res es c f e s u v) (hl : v < V) : Ways V es c f st (ws ++ [(v, some (e, s, u))]) := by
  have hne : 0 < ws.length := by
    have := (List.getElem?_eq_some_iff.1 h.hd).1
    exact this
  refine ⟨?_, ?_, ?_, ?_⟩
  · rw [List.getElem?_append_left hne]; exact h.hd
  · simp only [ky, List.map_append, List.map_cons, List.map_nil]
    rw [List.nodup_append]
    refine ⟨h.nd, by simp, ?_⟩
    intro a ha b hb
    simp at hb
    subst hb
    rintro rfl
    exact hv ha
  · intro i w o hi h0
    by_cases hi2 : i < ws.length
    · rw [List.getElem?_append_left hi2] at hi
      obtain ⟨e', s', u', k, h1, h2, h3, h4⟩ := h.lk i w o hi h0
      refine ⟨e', s', u', k, h1, h2, ?_, h4⟩
      simp only [ky, List.map_append]
      rw [List.getElem?_append_left (by simp; omega)]
      exact h3
    · have hi3 : i = ws.length := by
        have := (List.getElem?_eq_some_iff.1 hi).1
        simp at this
        omega
      subst hi3
      simp at hi
      obtain ⟨rfl, rfl⟩ := hi
      obtain ⟨k, hk, hk2⟩ := List.getElem_of_mem hu
      refine ⟨e, s, u, k, rfl, by simpa using hk, ?_, hr⟩
      simp only [ky, List.map_append]
      rw [List.getElem?_append_left (by simpa using hk)]
      rw [List.getElem?_eq_getElem hk, hk2]
  · intro x hx
    simp only [ky, List.map_append, List.map_cons, List.map_nil, List.mem_append, List.mem_singleton] at hx
    rcases hx with hx | rfl
    · exact h.lt x hx
    · exact hl
theorem nodup_lt (V : Nat) (l : List Nat) (h : l.Nodup) (hl : ∀ x ∈ l, x < V) : l.length ≤ V := by
  have := nodup_le l (List.range V) h fun x hx => by simp [hl x hx]
  simpa using this
/-- one edge -/
def push (s : List W × List Nat) (v : Nat) (p : Nat × Int × Nat) : List W × List Nat := (s.1 ++ [(v, some p)], s.2 ++ [v])
def half (b : Bool) (v : Nat) (p : Nat × Int × Nat) (s : List W × List Nat) : List W × List Nat := if b = true ∧ v ∉ ky s.1 then push s v p else s
def estep (es : List (Nat × Nat)) (c f : List Int) (h : Nat) (s : List W × List Nat) (j : Nat) : List W × List Nat :=
  let e := es.getD j (0, 0)
  half (decide (e.2 = h) && decide (0 < f.getD j 0)) e.1 (j, -1, h) (half (decide (e.1 = h) && decide (f.getD j 0 < c.getD j 0)) e.2 (j, 1, h) s)
theorem ow2 (V : Nat) (es : List (Nat × Nat)) (c f : List Int) (oc of : Bool) (st : D) (ws : List W) (wt : List Nat) (h j : Nat) (x8 x9 : D) (hj : j < es.length) (hc : c.length = es.length) (hf : f.length = es.length) (hk : ws.length < 1000) (hw : wt.length < 1000) :
    dSs c_open_ways lx_open_ways_2 [G V es, .lst oc (I c), .lst of (I f), st, Wd ws, .lst true (N wt), .int h, .int j, x8, x9] =
      .nx [G V es, .lst oc (I c), .lst of (I f), st, Wd (estep es c f h (ws, wt) j).1, .lst true (N (estep es c f h (ws, wt) j).2), .int h, .int j, .int (es.getD j (0, 0)).1, .int (es.getD j (0, 0)).2] := by
  obtain ⟨a, b, hab⟩ : ∃ a b, es[j] = (a, b) := ⟨_, _, rfl⟩
  have hjc : j < c.length := by omega
  have hjf : j < f.length := by omega
  have hg : es.getD j (0, 0) = (a, b) := by simp [List.getD, hj, hab]
  have hcj : c.getD j 0 = c[j] := by simp [List.getD, hjc]
  have hfj : f.getD j 0 = f[j] := by simp [List.getD, hjf]
  unfold estep
  rw [hg, hcj, hfj]
  have mb := memD_N b (ky ws)
  have fb := findD_N b (ky ws)
  have ma := memD_N a (ky ws)
  have fa := findD_N a (ky ws)
  have ma2 := memD_N a (ky ws ++ [b])
  have fa2 := findD_N a (ky ws ++ [b])
  have hkl : ws.length < 16777216 := by omega
  have hwl : wt.length < 16777216 := by omega
  have hkl2 : ws.length + 1 < 16777216 := by omega
  have hwl2 : wt.length + 1 < 16777216 := by omega
  have k2 : ∀ p, ky (ws ++ [(b, some p)]) = ky ws ++ [b] := by simp
  by_cases h2 : b ∈ ky ws <;> by_cases h5 : a ∈ ky ws <;> by_cases h7 : a ∈ ky ws ++ [b]
  all_goals
    simp only [h2, h5, h7, decide_true, decide_false, if_true, if_false, N, ky, List.map_append, List.map_map, List.map_cons, List.map_nil, Bool.false_eq_true] at mb fb ma fa ma2 fa2
    simp only [half, k2, h2, h5, not_true_eq_false, not_false_eq_true, and_true, and_false, if_false]
    by_cases h1 : a = h <;> by_cases h3 : f[j] < c[j] <;> by_cases h4 : b = h <;> by_cases h6 : (0 : Int) < f[j] <;>
    (try subst h1) <;> (try subst h4) <;> first | (exfalso; exact h5 h2) | (exfalso; exact h2 h5) | simp [lx_open_ways_2, hab, hjc, hjf, hj, h3, h6, h7, push, mb, fb, ma, fa, ma2, fa2, storeI, putD, hkl, hwl, hkl2, hwl2, ev, negD, *]
end k87
namespace k87
open Mp Mq
section
variable (V : Nat) (es : List (Nat × Nat)) (c f : List Int) (st : Nat)
/-- h's edges below j lead into the keys -/
def Led (ws : List W) (h j : Nat) : Prop := ∀ e s v, e < j → Res es c f e s h v → v ∈ ky ws
def Clo (ws : List W) (u : Nat) : Prop := ∀ e s v, Res es c f e s u v → v ∈ ky ws
theorem Res.lt {es : List (Nat × Nat)} {c f : List Int} {e : Nat} {s : Int} {u v : Nat} (h : Res es c f e s u v) : e < es.length := by
  rcases h with ⟨_, h, _⟩ | ⟨_, h, _⟩
  · exact (List.getElem?_eq_some_iff.1 h).1
  · exact (List.getElem?_eq_some_iff.1 h).1
/-- what half does -/
theorem half_ok {V : Nat} {es : List (Nat × Nat)} {c f : List Int} {st : Nat} {s : List W × List Nat} {b : Bool} {v e h : Nat} {sg : Int} (hw : Ways V es c f st s.1) (hh : h ∈ ky s.1) (hv : v < V) (hr : b = true → Res es c f e sg h v) :
    Ways V es c f st (half b v (e, sg, h) s).1 ∧ (∀ x ∈ ky s.1, x ∈ ky (half b v (e, sg, h) s).1) ∧ (∀ x ∈ s.2, x ∈ (half b v (e, sg, h) s).2) ∧ (∀ x ∈ ky (half b v (e, sg, h) s).1, x ∈ ky s.1 ∨ x ∈ (half b v (e, sg, h) s).2) ∧ (∀ x ∈ (half b v (e, sg, h) s).2, x ∈ s.2 ∨ x ∈ ky (half b v (e, sg, h) s).1) ∧ (b = true → v ∈ ky (half b v (e, sg, h) s).1) ∧
    (half b v (e, sg, h) s).2.length + (ky s.1).length = s.2.length + (ky (half b v (e, sg, h) s).1).length := by
  unfold half
  split
  · rename_i hc
    have := hw.push hh hc.2 (hr hc.1) hv
    refine ⟨this, ?_, ?_, ?_, ?_, ?_, ?_⟩ <;> simp only [push, ky, List.map_append, List.map_cons, List.map_nil, List.mem_append, List.mem_singleton, List.length_append, List.length_map, List.length_cons, List.length_nil]
    · intro x hx; exact .inl hx
    · intro x hx; exact .inl hx
    · rintro x (hx | hx)
      · exact .inl hx
      · exact .inr (.inr hx)
    · rintro x (hx | hx)
      · exact .inl hx
      · exact .inr (.inr hx)
    · intro _; exact .inr trivial
    · omega
  · rename_i hc
    refine ⟨hw, fun x hx => hx, fun x hx => hx, fun x hx => .inl hx, fun x hx => .inl hx, fun hb => ?_, rfl⟩
    by_cases hv2 : v ∈ ky s.1
    · exact hv2
    · exact absurd ⟨hb, hv2⟩ hc
structure Turn (ws0 : List W) (wt0 : List Nat) (h j : Nat) (s : List W × List Nat) : Prop where
  ways : Ways V es c f st s.1
  sub : ∀ x ∈ s.2, x ∈ ky s.1
  up : ∀ x ∈ ky ws0, x ∈ ky s.1
  upw : ∀ x ∈ wt0, x ∈ s.2
  nw : ∀ x ∈ ky s.1, x ∈ ky ws0 ∨ x ∈ s.2
  led : Led es c f s.1 h j
  cnt : s.2.length + (ky ws0).length = wt0.length + (ky s.1).length
theorem estep_ok {ws0 : List W} {wt0 : List Nat} {h j : Nat} {s : List W × List Nat} (hE : inR V es) (hj : j < es.length) (hh : h ∈ ky ws0) (T : Turn V es c f st ws0 wt0 h j s) : Turn V es c f st ws0 wt0 h (j + 1) (estep es c f h s j) := by
  obtain ⟨a, b, hab⟩ : ∃ a b, es[j] = (a, b) := ⟨_, _, rfl⟩
  have hg : es.getD j (0, 0) = (a, b) := by simp [List.getD, hj, hab]
  have hq : es[j]? = some (a, b) := by simp [hj, hab]
  have hr := hE _ (List.getElem_mem hj)
  rw [hab] at hr
  unfold estep
  rw [hg]
  simp only
  obtain ⟨a1, a2, a3, a4, a5, a6, a7⟩ := half_ok (V := V) (st := st) (b := decide (a = h) && decide (f.getD j 0 < c.getD j 0)) (v := b) (e := j) (sg := 1) (h := h) (s := s) T.ways (T.up h hh) hr.2 (by
    intro hb
    simp at hb
    obtain ⟨rfl, h2⟩ := hb
    exact .inl ⟨rfl, hq, by simpa using h2⟩)
  obtain ⟨b1, b2, b3, b4, b5, b6, b7⟩ := half_ok (V := V) (st := st) (b := decide (b = h) && decide (0 < f.getD j 0)) (v := a) (e := j) (sg := -1) (h := h) (s := half (decide (a = h) && decide (f.getD j 0 < c.getD j 0)) b (j, 1, h) s) a1 (a2 _ (T.up h hh)) hr.1 (by
    intro hb
    simp at hb
    obtain ⟨rfl, h2⟩ := hb
    exact .inr ⟨rfl, hq, by simpa using h2⟩)
  refine ⟨b1, ?_, fun x hx => b2 x (a2 x (T.up x hx)), fun x hx => b3 x (a3 x (T.upw x hx)), ?_, ?_, ?_⟩
  · intro x hx
    rcases b5 x hx with hx | hx
    · rcases a5 x hx with hx | hx
      · exact b2 _ (a2 _ (T.sub x hx))
      · exact b2 _ hx
    · exact hx
  · intro x hx
    rcases b4 x hx with hx | hx
    · rcases a4 x hx with hx | hx
      · rcases T.nw x hx with hx | hx
        · exact .inl hx
        · exact .inr (b3 _ (a3 _ hx))
      · exact .inr (b3 _ hx)
    · exact .inr hx
  · intro e sg v he hr
    by_cases hej : e = j
    · subst hej
      rcases hr with ⟨rfl, h1, h2⟩ | ⟨rfl, h1, h2⟩
      · rw [hq] at h1
        cases h1
        exact b2 _ (a6 (by simpa using h2))
      · rw [hq] at h1
        cases h1
        exact b6 (by simpa using h2)
    · exact b2 _ (a2 _ (T.led e sg v (by omega) hr))
  · have := T.cnt
    omega
theorem Ways.len {V : Nat} {es : List (Nat × Nat)} {c f : List Int} {st : Nat} {ws : List W} (h : Ways V es c f st ws) : ws.length ≤ V := by
  have := nodup_lt V (ky ws) h.nd h.lt
  simpa using this
abbrev Gs (V : Nat) (es : List (Nat × Nat)) (c f : List Int) (oc of : Bool) (st : D) (ws : List W) (wt : List Nat) (x6 x7 x8 x9 : D) : Env := [G V es, .lst oc (I c), .lst of (I f), st, Wd ws, .lst true (N wt), x6, x7, x8, x9]
theorem ow_body (oc of : Bool) (hE : inR V es) (hl : es.length ≤ 1000) (hV : V ≤ 100) (hc : c.length = es.length) (hf : f.length = es.length) (ws : List W) (h : Nat) (wt : List Nat) (hw : Ways V es c f st ws) (hs : ∀ x ∈ h :: wt, x ∈ ky ws) (hm : wt.length ≤ 500) (x6 x7 x8 x9 : D) :
    ∃ ws' wt' y7 y8 y9, dSs c_open_ways lx_open_ways_3 (Gs V es c f oc of (.int st) ws (h :: wt) x6 x7 x8 x9) = .nx (Gs V es c f oc of (.int st) ws' wt' (.int h) y7 y8 y9) ∧ Turn V es c f st ws wt h es.length (ws', wt') := by
  obtain ⟨ρ, e, ws', wt', y7, y8, y9, T, rfl⟩ := loop_rng (turn := turnF c_open_ways (.var 7) lx_open_ways_2) (ρ := Gs V es c f oc of (.int st) ws wt (.int h) x7 x8 x9) (fun j ρ => ∃ ws' wt' y7 y8 y9, Turn V es c f st ws wt h j (ws', wt') ∧ ρ = Gs V es c f oc of (.int st) ws' wt' (.int h) y7 y8 y9) es.length ⟨ws, wt, x7, x8, x9, ⟨hw, fun x hx => hs x (by simp [hx]), fun x hx => hx, fun x hx => hx, fun x hx => .inl hx, fun e s v he => absurd he (by omega), rfl⟩, rfl⟩ (by
    rintro j _ hj ⟨ws', wt', y7, y8, y9, T, rfl⟩
    have h1 := T.ways.len
    have h2 := T.cnt
    simp only at h1 h2
    have h3 : (ky ws').length ≤ V := by simpa using h1
    refine ⟨_, ?_, (estep es c f h (ws', wt') j).1, (estep es c f h (ws', wt') j).2, .int j, .int (es.getD j (0, 0)).1, .int (es.getD j (0, 0)).2, estep_ok V es c f st hE hj (hs h (by simp)) T, rfl⟩
    rw [turnF_var]
    exact ow2 V es c f oc of (.int st) ws' wt' h j y8 y9 hj hc hf (by omega) (by omega))
  refine ⟨ws', wt', y7, y8, y9, ?_, T⟩
  have hr : okR (es.length : Int) = true := okR_nat _ (by omega)
  have hl2 : es.length ≤ 16777216 := by omega
  simp only [Gs, G, Ed, Wd, I] at e
  simp [lx_open_ways_3, hr, hl2, e, place]
theorem ow_loop (oc of : Bool) (hE : inR V es) (hl : es.length ≤ 1000) (hV : V ≤ 100) (hc : c.length = es.length) (hf : f.length = es.length) : ∀ (n : Nat) (ws : List W) (wt : List Nat) (x6 x7 x8 x9 : D), V + wt.length < n + ws.length → Ways V es c f st ws → (∀ x ∈ wt, x ∈ ky ws) → (∀ u ∈ ky ws, u ∈ wt ∨ Clo es c f ws u) → wt.length ≤ ws.length →
    ∃ ws' y6 y7 y8 y9, loopW (dT c_open_ways tx_open_ways_1) (dSs c_open_ways lx_open_ways_3) n (Gs V es c f oc of (.int st) ws wt x6 x7 x8 x9) = .nx (Gs V es c f oc of (.int st) ws' [] y6 y7 y8 y9) ∧ Ways V es c f st ws' ∧ ∀ u ∈ ky ws', Clo es c f ws' u := by
  intro n
  induction n with
  | zero =>
    intro ws wt _ _ _ _ hn hw _ _ _
    have := hw.len
    omega
  | succ n ih =>
    intro ws wt x6 x7 x8 x9 hn hw hs hcl hlen
    have hwl := hw.len
    cases wt with
    | nil =>
      refine ⟨ws, x6, x7, x8, x9, loopW_end ?_, hw, fun u hu => ?_⟩
      · simp [tx_open_ways_1]
      · rcases hcl u hu with h | h
        · simp at h
        · exact h
    | cons h wt =>
      simp only [List.length_cons] at hn hlen
      obtain ⟨ws', wt', y7, y8, y9, e, T⟩ := ow_body V es c f st oc of hE hl hV hc hf ws h wt hw hs (by omega) x6 x7 x8 x9
      have hcnt := T.cnt
      simp only [ky, List.length_map] at hcnt
      obtain ⟨ws2, z6, z7, z8, z9, e2, h2, h3⟩ := ih ws' wt' (.int h) y7 y8 y9 (by omega) T.ways T.sub (by
        intro u hu
        by_cases huh : u = h
        · subst huh
          right
          intro e s v hr
          exact T.led e s v hr.lt hr
        · rcases T.nw u hu with hu2 | hu2
          · rcases hcl u hu2 with h1 | h1
            · left
              rcases List.mem_cons.1 h1 with h1 | h1
              · exact absurd h1 huh
              · exact T.upw u h1
            · right
              intro e s v hr
              exact T.up v (h1 e s v hr)
          · exact .inl hu2) (by omega)
      refine ⟨ws2, z6, z7, z8, z9, ?_, h2, h3⟩
      rw [loopW_go _ e]
      · exact e2
      · simp [tx_open_ways_1]
theorem open_ok (oc of : Bool) (hE : inR V es) (hl : es.length ≤ 1000) (hV : V ≤ 100) (hc : c.length = es.length) (hf : f.length = es.length) (hst : st < V) :
    ∃ ws, m_open_ways [G V es, .lst oc (I c), .lst of (I f), .int st] = .ok (Wd ws) [G V es, .lst oc (I c), .lst of (I f), .int st] ∧ Ways V es c f st ws ∧ ∀ u ∈ ky ws, Clo es c f ws u := by
  obtain ⟨ws, y6, y7, y8, y9, e, h1, h2⟩ := ow_loop V es c f st oc of hE hl hV hc hf 100000 [(st, none)] [st] .gone .gone .gone .gone (by simp; omega) ⟨rfl, by simp, by
    intro i v o h h0
    have := (List.getElem?_eq_some_iff.1 h).1
    simp at this
    omega, by simp [hst]⟩ (by simp) (by simp) (by simp)
  refine ⟨ws, ?_, h1, h2⟩
  simp only [Gs, show Wd [(st, none)] = .dct true true [.int st] [.non] from rfl, show N [st] = [D.int st] from rfl] at e
  simp [m_open_ways, b_open_ways, dF, small64_eq, e]
end
end k87
namespace k87
open Mp Mq
theorem idx_at : ∀ (K : List Nat) (i v : Nat), K.Nodup → K[i]? = some v → K.idxOf v = i
  | [], i, v, _, h => by simp at h
  | x :: K, 0, v, _, h => by simp at h; simp [h]
  | x :: K, i + 1, v, nd, h => by
    have n2 := List.nodup_cons.1 nd
    simp at h
    have hv : v ∈ K := List.mem_of_getElem? h
    have hne : x ≠ v := fun z => n2.1 (z ▸ hv)
    simp [List.idxOf_cons, beq_eq_false_iff_ne.2 hne, idx_at K i v n2.2 h]
/-- steps back from a vertex to the start -/
inductive Chain (es : List (Nat × Nat)) (c f : List Int) (st : Nat) : Nat → List (Nat × Int) → Prop
  | nil : Chain es c f st st []
  | cons {e s u v l} : Res es c f e s u v → Chain es c f st u l → Chain es c f st v ((e, s) :: l)
abbrev sp (p : Nat × Int) : D := .tup [.int p.1, .int p.2]
section
variable {V : Nat} {es : List (Nat × Nat)} {c f : List Int} {st : Nat} {ws : List W}
theorem way_find (h : Ways V es c f st ws) {i v : Nat} {o : Option (Nat × Int × Nat)} (hi : ws[i]? = some (v, o)) : findD (.int v) (N (ky ws)) = some i ∧ (ws.map fun w => ev w.2)[i]? = some (ev o) := by
  have h1 : (ky ws)[i]? = some v := by simp [ky, hi]
  have hm : v ∈ ky ws := List.mem_of_getElem? h1
  constructor
  · rw [findD_N, if_pos hm, idx_at _ _ _ h.nd h1]
  · simp [hi]
theorem ev_sh (o) : sh (ev o) = true := by rcases o with _ | ⟨e, s, u⟩ <;> simp [ev]
theorem way_loop (h : Ways V es c f st ws) (en_ : D) : ∀ (i v : Nat) (o : Option (Nat × Int × Nat)), ws[i]? = some (v, o) → ∀ (n : Nat) (acc : List (Nat × Int)) (x4 x5 : D), i < n → acc.length + i < 1000 →
    ∃ l y4 y5, loopW (dT c_way_to tx_way_to_1) (dSs c_way_to lx_way_to_2) n [Wd ws, en_, .lst true (acc.map sp), .int v, x4, x5] = .nx [Wd ws, en_, .lst true ((acc ++ l).map sp), .int st, y4, y5] ∧ Chain es c f st v l ∧ (l.map Prod.fst).Nodup ∧ l.length ≤ i ∧ ∀ p ∈ l, ∃ k w u, k ≤ i ∧ ws[k]? = some (w, some (p.1, p.2, u)) := by
  intro i
  induction i using Nat.strongRecOn with
  | ind i ih =>
    intro v o hi n acc x4 x5 hn ha
    obtain ⟨n, rfl⟩ : ∃ m, n = m + 1 := ⟨n - 1, by omega⟩
    obtain ⟨hf, hg⟩ := way_find h hi
    have hsh := ev_sh o
    simp only [N, ky, List.map_map] at hf
    by_cases h0 : i = 0
    · subst h0
      have := h.hd
      rw [hi] at this
      cases this
      refine ⟨[], x4, x5, ?_, .nil, by simp, by simp, by simp⟩
      rw [List.append_nil]
      refine loopW_end ?_
      simp [tx_way_to_1, hf, hg, ev]
      simp [hi]
    · obtain ⟨e, s, u, k, rfl, hk, hku, hr⟩ := h.lk i v o hi (by omega)
      obtain ⟨o', hko⟩ : ∃ o', ws[k]? = some (u, o') := by
        simp [ky] at hku
        obtain ⟨o', ho⟩ := hku
        exact ⟨o', ho⟩
      obtain ⟨l, y4, y5, e1, hc, nd, hl, hp⟩ := ih k hk u o' hko n (acc ++ [(e, s)]) (.int e) (.int s) (by omega) (by simp; omega)
      refine ⟨(e, s) :: l, y4, y5, ?_, .cons hr hc, ?_, by simp; omega, ?_⟩
      · rw [loopW_go (ρ' := [Wd ws, en_, .lst true ((acc ++ [(e, s)]).map sp), .int u, .int e, .int s])]
        · rw [e1, List.append_assoc]; rfl
        · simp [tx_way_to_1, hf, hi, ev]
        · have hal : acc.length < 16777216 := by omega
          simp [lx_way_to_2, hf, hi, ev, hal]
      · simp only [List.map_cons, List.nodup_cons]
        refine ⟨?_, nd⟩
        intro hmem
        obtain ⟨⟨e', s'⟩, hpm, rfl⟩ := List.mem_map.1 hmem
        obtain ⟨k', w, u', hk', hw⟩ := hp _ hpm
        simp only at hw hr
        have hk0 : 0 < k' := by
          rcases Nat.eq_zero_or_pos k' with z | z
          · subst z
            have := h.hd
            rw [hw] at this
            cases this
          · exact z
        obtain ⟨e2, s2, u2, k2, q1, q2, q3, q4⟩ := h.lk k' w _ hw hk0
        cases q1
        have iv : (ky ws)[i]? = some v := by simp [ky, hi]
        have iw : (ky ws)[k']? = some w := by simp [ky, hw]
        have ij : ∀ a b x, (ky ws)[a]? = some x → (ky ws)[b]? = some x → a = b := fun a b x ha hb => by
          rw [← idx_at _ _ _ h.nd ha, idx_at _ _ _ h.nd hb]
        rcases hr with ⟨rfl, r1, _⟩ | ⟨rfl, r1, _⟩ <;> rcases q4 with ⟨rfl, r2, _⟩ | ⟨rfl, r2, _⟩ <;> rw [r1] at r2 <;> cases r2
        · have := ij _ _ _ iv iw; omega
        · have := ij _ _ _ iv q3; omega
        · have := ij _ _ _ iv q3; omega
        · have := ij _ _ _ iv iw; omega
      · intro p hpm
        rcases List.mem_cons.1 hpm with rfl | hpm
        · exact ⟨i, v, u, Nat.le_refl _, hi⟩
        · obtain ⟨k', w, u', hk', hw⟩ := hp p hpm
          exact ⟨k', w, u', by omega, hw⟩
theorem way_ok (h : Ways V es c f st ws) (hV : V ≤ 100) (en_ : Nat) (he : en_ ∈ ky ws) : ∃ l, m_way_to [Wd ws, .int en_] = .ok (.lst true (l.map sp)) [Wd ws, .int en_] ∧ Chain es c f st en_ l ∧ (l.map Prod.fst).Nodup ∧ l.length ≤ 100 := by
  obtain ⟨i, hi, hi2⟩ := List.getElem_of_mem he
  simp only [ky, List.length_map] at hi
  have hlen := h.len
  obtain ⟨o, ho⟩ : ∃ o, ws[i]? = some (en_, o) := by
    refine ⟨ws[i].2, ?_⟩
    rw [List.getElem?_eq_getElem hi]
    simp only [ky, List.getElem_map] at hi2
    rw [← hi2]
  obtain ⟨l, y4, y5, e, h1, h2, h3, _⟩ := way_loop h (.int en_) i en_ o ho 100000 [] .gone .gone (by omega) (by simp; omega)
  refine ⟨l, ?_, h1, h2, by omega⟩
  simp only [List.map_nil, List.nil_append] at e
  simp [m_way_to, b_way_to, dF, small64_eq, e]
end
end k87
namespace k87
open Mp Mq
/-- sums of the first n -/
def Su (g : Nat → Int) : Nat → Int
  | 0 => 0
  | n + 1 => Su g n + g n
theorem Su_congr {g h : Nat → Int} : ∀ {n : Nat}, (∀ j, j < n → g j = h j) → Su g n = Su h n
  | 0, _ => rfl
  | n + 1, k => by
    simp only [Su]
    rw [Su_congr (n := n) fun j hj => k j (by omega), k n (by omega)]
theorem Su_add (g h : Nat → Int) : ∀ n, Su (fun j => g j + h j) n = Su g n + Su h n
  | 0 => rfl
  | n + 1 => by simp only [Su, Su_add g h n]; omega
theorem Su_sub (g h : Nat → Int) : ∀ n, Su (fun j => g j - h j) n = Su g n - Su h n
  | 0 => rfl
  | n + 1 => by simp only [Su, Su_sub g h n]; omega
theorem Su_zero : ∀ n, Su (fun _ => 0) n = 0
  | 0 => rfl
  | n + 1 => by simp only [Su, Su_zero n]; rfl
theorem Su_le {g h : Nat → Int} : ∀ {n : Nat}, (∀ j, j < n → g j ≤ h j) → Su g n ≤ Su h n
  | 0, _ => Int.le_refl _
  | n + 1, k => by
    have := Su_le (n := n) fun j hj => k j (by omega)
    have := k n (by omega)
    simp only [Su]; omega
theorem Su_one (x : Nat) (y : Int) : ∀ n, Su (fun j => if j = x then y else 0) n = if x < n then y else 0
  | 0 => by simp [Su]
  | n + 1 => by
    simp only [Su, Su_one x y n]
    by_cases h : x < n
    · rw [if_pos h, if_neg (by omega), if_pos (by omega)]; omega
    · by_cases h2 : n = x
      · rw [if_neg h, if_pos h2, if_pos (by omega)]; omega
      · rw [if_neg h, if_neg h2, if_neg (by omega)]; omega
theorem Su_swap (a : Nat → Nat → Int) (n : Nat) : ∀ m, Su (fun w => Su (fun j => a w j) n) m = Su (fun j => Su (fun w => a w j) m) n
  | 0 => by simp only [Su, Su_zero]
  | m + 1 => by simp only [Su, Su_swap a n m, Su_add]
theorem Su_dvd (k : Int) {g : Nat → Int} : ∀ {n : Nat}, (∀ j, j < n → k ∣ g j) → k ∣ Su g n
  | 0, _ => Int.dvd_zero k
  | n + 1, h => Int.dvd_add (Su_dvd k fun j hj => h j (by omega)) (h n (by omega))
/-- a change at one place -/
theorem Su_upd {g h : Nat → Int} {e : Nat} {d : Int} {n : Nat} (he : e < n) (h1 : h e = g e + d) (h2 : ∀ j, j ≠ e → h j = g j) : Su h n = Su g n + d := by
  have : Su h n = Su (fun j => g j + if j = e then d else 0) n := Su_congr fun j _ => by
    by_cases hj : j = e
    · subst hj; simp [h1]
    · simp [hj, h2 j hj]
  rw [this, Su_add, Su_one, if_pos he]
def Ee (es : List (Nat × Nat)) (j : Nat) : Nat × Nat := es.getD j (0, 0)
def Ff (f : List Int) (j : Nat) : Int := f.getD j 0
/-- what comes in less what goes out -/
def exs (es : List (Nat × Nat)) (f : List Int) (w : Nat) : Int := Su (fun j => (if (Ee es j).2 = w then Ff f j else 0) - if (Ee es j).1 = w then Ff f j else 0) es.length
def capa (es : List (Nat × Nat)) (c : List Int) (p : Nat → Bool) : Int := Su (fun j => if p (Ee es j).1 = true ∧ p (Ee es j).2 = false then Ff c j else 0) es.length
def Feas (c f : List Int) : Prop := ∀ j, j < f.length → 0 ≤ Ff f j ∧ Ff f j ≤ Ff c j
theorem Ff_set (f : List Int) (e : Nat) (x : Int) (he : e < f.length) (j : Nat) : Ff (f.set e x) j = if j = e then x else Ff f j := by
  simp only [Ff, List.getD]
  by_cases h : j = e
  · subst h; simp [he]
  · rw [List.getElem?_set_ne (Ne.symm h)]; simp [h]
theorem exs_set (es : List (Nat × Nat)) (f : List Int) (e : Nat) (d : Int) (he : e < f.length) (hl : f.length = es.length) (w : Nat) : exs es (f.set e (Ff f e + d)) w = exs es f w + ((if (Ee es e).2 = w then d else 0) - if (Ee es e).1 = w then d else 0) := by
  unfold exs
  refine Su_upd (e := e) (by omega) ?_ ?_
  · simp only [Ff_set f e _ he, if_true]
    split <;> split <;> omega
  · intro j hj
    simp only [Ff_set f e _ he, if_neg hj]
def addL (d : Int) (f : List Int) (l : List (Nat × Int)) : List Int := l.foldl (fun g p => g.set p.1 (Ff g p.1 + p.2 * d)) f
theorem addL_len (d : Int) : ∀ (l : List (Nat × Int)) (f : List Int), (addL d f l).length = f.length
  | [], f => rfl
  | p :: l, f => by
    show (addL d (f.set p.1 _) l).length = _
    rw [addL_len d l]; simp
theorem Ee_of {es : List (Nat × Nat)} {e : Nat} {x : Nat × Nat} (h : es[e]? = some x) : Ee es e = x := by simp [Ee, List.getD, h]
theorem chain_exs {es : List (Nat × Nat)} {c f0 : List Int} {st v : Nat} {l : List (Nat × Int)} (d : Int) (h : Chain es c f0 st v l) : ∀ (f : List Int), f.length = es.length → ∀ w, exs es (addL d f l) w = exs es f w + ((if w = v then d else 0) - if w = st then d else 0) := by
  induction h with
  | nil =>
    intro f _ w
    show exs es f w = _
    split <;> omega
  | @cons e s u v l hr _ ih =>
    intro f hf w
    have he := hr.lt
    show exs es (addL d (f.set e (Ff f e + s * d)) l) w = _
    rw [ih _ (by simpa using hf), exs_set es f e (s * d) (by omega) hf]
    rcases hr with ⟨rfl, h1, _⟩ | ⟨rfl, h1, _⟩ <;> rw [Ee_of h1] <;> simp only [eq_comm (a := w)]
    · have : (1 : Int) * d = d := by omega
      rw [this]
      omega
    · have : (-1 : Int) * d = -d := by omega
      rw [this]
      by_cases h1 : u = w <;> by_cases h2 : v = w <;> by_cases h3 : st = w <;> simp only [h1, h2, h3, if_true, if_false] <;> omega
theorem chain_mem {es : List (Nat × Nat)} {c f : List Int} {st v : Nat} {l : List (Nat × Int)} (h : Chain es c f st v l) : ∀ p ∈ l, ∃ u v, Res es c f p.1 p.2 u v := by
  induction h with
  | nil => simp
  | cons hr _ ih =>
    intro p hp
    rcases List.mem_cons.1 hp with rfl | hp
    · exact ⟨_, _, hr⟩
    · exact ih p hp
theorem addL_feas (c : List Int) (d : Int) : ∀ (l : List (Nat × Int)) (f : List Int), (l.map Prod.fst).Nodup → (∀ p ∈ l, p.1 < f.length ∧ 0 ≤ Ff f p.1 + p.2 * d ∧ Ff f p.1 + p.2 * d ≤ Ff c p.1) → Feas c f → Feas c (addL d f l)
  | [], f, _, _, h => h
  | p :: l, f, nd, hp, h => by
    have n2 := List.nodup_cons.1 nd
    obtain ⟨h1, h2, h3⟩ := hp p (by simp)
    show Feas c (addL d (f.set p.1 (Ff f p.1 + p.2 * d)) l)
    refine addL_feas c d l _ n2.2 ?_ ?_
    · intro q hq
      have hne : q.1 ≠ p.1 := fun z => n2.1 (z ▸ List.mem_map_of_mem hq)
      rw [Ff_set f p.1 _ h1, if_neg hne, List.length_set]
      exact hp q (by simp [hq])
    · intro j hj
      rw [List.length_set] at hj
      rw [Ff_set f p.1 _ h1]
      split
      · rename_i e; rw [e]; exact ⟨h2, h3⟩
      · exact h j hj
theorem addL_dvd (k d : Int) (hd : k ∣ d) : ∀ (l : List (Nat × Int)) (f : List Int), (∀ p ∈ l, p.1 < f.length) → (∀ j, k ∣ Ff f j) → ∀ j, k ∣ Ff (addL d f l) j
  | [], f, _, h => h
  | p :: l, f, hp, h => by
    refine addL_dvd k d hd l (f.set p.1 (Ff f p.1 + p.2 * d)) ?_ ?_
    · intro q hq; rw [List.length_set]; exact hp q (by simp [hq])
    · intro j
      rw [Ff_set f p.1 _ (hp p (by simp))]
      split
      · exact Int.dvd_add (h _) (Int.dvd_mul_of_dvd_right hd)
      · exact h j
/-- the net stream over a cut -/
theorem net (V : Nat) (es : List (Nat × Nat)) (f : List Int) (st en_ : Nat) (hE : inR V es) (hen : en_ < V) (hcons : ∀ w, w < V → w ≠ st → w ≠ en_ → exs es f w = 0) (p : Nat → Bool) (hs : p st = true) (he : p en_ = false) :
    exs es f en_ = Su (fun j => (if p (Ee es j).1 = true ∧ p (Ee es j).2 = false then Ff f j else 0) - if p (Ee es j).1 = false ∧ p (Ee es j).2 = true then Ff f j else 0) es.length := by
  have h1 : exs es f en_ = Su (fun w => if p w = false then exs es f w else 0) V := by
    have : Su (fun w => if p w = false then exs es f w else 0) V = Su (fun w => if w = en_ then exs es f en_ else 0) V := Su_congr fun w hw => by
      by_cases hwe : w = en_
      · subst hwe; simp [he]
      · rw [if_neg hwe]
        split
        · rename_i hp
          refine hcons w hw ?_ hwe
          rintro rfl
          rw [hs] at hp; cases hp
        · rfl
    rw [this, Su_one, if_pos hen]
  rw [h1]
  have h2 : Su (fun w => if p w = false then exs es f w else 0) V = Su (fun w => Su (fun j => if p w = false then ((if (Ee es j).2 = w then Ff f j else 0) - if (Ee es j).1 = w then Ff f j else 0) else 0) es.length) V := Su_congr fun w _ => by
    by_cases hp : p w = false
    · simp only [hp, if_true]; rfl
    · simp only [if_neg hp, Su_zero]
  rw [h2, Su_swap]
  refine Su_congr fun j hj => ?_
  have hm : Ee es j ∈ es := by simp [Ee, List.getD, hj]
  obtain ⟨r1, r2⟩ := hE _ hm
  generalize Ee es j = e at r1 r2
  have h3 : Su (fun w => if p w = false then ((if e.2 = w then Ff f j else 0) - if e.1 = w then Ff f j else 0) else 0) V = Su (fun w => (if w = e.2 then (if p e.2 = false then Ff f j else 0) else 0) - if w = e.1 then (if p e.1 = false then Ff f j else 0) else 0) V := Su_congr fun w _ => by
    by_cases a1 : w = e.2 <;> by_cases a2 : w = e.1
    · subst a1
      rw [← a2]
      by_cases h : p e.2 = false <;> simp [h]
    · subst a1
      by_cases h : p e.2 = false <;> simp [h, a2, Ne.symm a2]
    · subst a2
      by_cases h : p e.1 = false <;> simp [h, a1, Ne.symm a1]
    · simp [a1, a2, Ne.symm a1, Ne.symm a2]
  rw [h3, Su_sub, Su_one, Su_one, if_pos r1, if_pos r2]
  cases p e.1 <;> cases p e.2 <;> simp
theorem weak (V : Nat) (es : List (Nat × Nat)) (c f : List Int) (st en_ : Nat) (hE : inR V es) (hen : en_ < V) (hf : f.length = es.length) (hfe : Feas c f) (hcons : ∀ w, w < V → w ≠ st → w ≠ en_ → exs es f w = 0) (p : Nat → Bool) (hs : p st = true) (he : p en_ = false) : exs es f en_ ≤ capa es c p := by
  rw [net V es f st en_ hE hen hcons p hs he]
  refine Su_le fun j hj => ?_
  obtain ⟨h1, h2⟩ := hfe j (by omega)
  cases p (Ee es j).1 <;> cases p (Ee es j).2 <;> simp <;> omega
end k87
namespace k87
open Mp Mq
theorem minI_le : ∀ (xs : List Int) (m : Int), minI m xs ≤ m ∧ ∀ x ∈ xs, minI m xs ≤ x
  | [], m => by simp [minI]
  | y :: xs, m => by
    obtain ⟨h1, h2⟩ := minI_le xs (if y < m then y else m)
    simp only [minI]
    refine ⟨?_, ?_⟩
    · split at h1 <;> split <;> omega
    · intro x hx
      rcases List.mem_cons.1 hx with rfl | hx
      · split at h1 <;> split <;> omega
      · exact h2 x hx
theorem minI_mem : ∀ (xs : List Int) (m : Int), minI m xs = m ∨ minI m xs ∈ xs
  | [], m => by simp [minI]
  | y :: xs, m => by
    simp only [minI]
    rcases minI_mem xs (if y < m then y else m) with h | h
    · split at h
      · rename_i hy; rw [if_pos hy]; right; rw [h]; simp
      · rename_i hy; rw [if_neg hy]; left; exact h
    · right; exact List.mem_cons_of_mem _ h
def room (c f : List Int) (p : Nat × Int) : Int := if p.2 = 1 then Ff c p.1 - Ff f p.1 else Ff f p.1
def delta (c f : List Int) (l : List (Nat × Int)) : Int := match l.map (room c f) with
  | [] => 0
  | r :: rs => minI r rs
theorem aug_turn (g cap s e val ws : D) (f : List Int) (r : Int) (rs : List Int) (p : Nat × Int) (hs : p.2 = 1 ∨ p.2 = -1) (hp : p.1 < f.length) (x9 x10 : D) :
    turnF c_greatest_stream (.tup (.cons (.var 9) (.cons (.var 10) .nil))) lx_greatest_stream_2 (sp p) [g, cap, s, e, .lst true (I f), val, ws, .gone, .lst true (I (r :: rs)), x9, x10] =
      .nx [g, cap, s, e, .lst true (I (f.set p.1 (Ff f p.1 + p.2 * minI r rs))), val, ws, .gone, .lst true (I (r :: rs)), .int p.1, .int p.2] := by
  rw [turnF_two]
  have h1 : Ff f p.1 = f[p.1] := by simp [Ff, List.getD, hp]
  rw [h1]
  rcases hs with hs | hs <;> rw [hs] <;> simp [lx_greatest_stream_2, hp, small64, Nat.blt, storeI, putD]
theorem room_turn (C : Cfg) (g s e val ws : D) (oc of : Bool) (c f : List Int) (p : Nat × Int) (hc : p.1 < c.length) (hp : p.1 < f.length) :
    turnC c_greatest_stream (.tup (.cons (.var 9) (.cons (.var 10) .nil))) [9, 10] .nil ex_greatest_stream_3 (sp p) [g, .lst oc (I c), s, e, .lst of (I f), val, ws, .gone, x8, .gone, .gone] = .ok ([.int (room c f p)], none) := by
  rw [turnC_two]
  have h1 : Ff f p.1 = f[p.1] := by simp [Ff, List.getD, hp]
  have h2 : Ff c p.1 = c[p.1] := by simp [Ff, List.getD, hc]
  unfold room
  rw [h1, h2]
  by_cases h : p.2 = 1 <;> simp [ex_greatest_stream_3, h, hp, hc]
section
variable {V : Nat} {es : List (Nat × Nat)} {c f : List Int} {st en_ : Nat} {ws : List W}
theorem res_sgn {e : Nat} {s : Int} {u v : Nat} (h : Res es c f e s u v) : (s = 1 ∨ s = -1) ∧ 0 < room c f (e, s) ∧ ∀ d : Int, 0 ≤ d → d ≤ room c f (e, s) → 0 ≤ Ff f e → Ff f e ≤ Ff c e → 0 ≤ Ff f e + s * d ∧ Ff f e + s * d ≤ Ff c e := by
  rcases h with ⟨rfl, _, h⟩ | ⟨rfl, _, h⟩
  · refine ⟨.inl rfl, ?_, ?_⟩
    · simp only [room, Ff, if_true]; omega
    · intro d h0 h1 h2 h3
      simp only [room, if_true] at h1
      omega
  · refine ⟨.inr rfl, ?_, ?_⟩
    · simp only [room, Ff]; simpa using h
    · intro d h0 h1 h2 h3
      simp only [room] at h1
      simp at h1
      omega
theorem delta_le (l : List (Nat × Int)) : ∀ p ∈ l, delta c f l ≤ room c f p := by
  intro p hp
  have : room c f p ∈ l.map (room c f) := List.mem_map_of_mem hp
  unfold delta
  cases h : l.map (room c f) with
  | nil => rw [h] at this; simp at this
  | cons r rs =>
    rw [h] at this
    obtain ⟨h1, h2⟩ := minI_le rs r
    rcases List.mem_cons.1 this with e | e
    · simp only [e]; exact h1
    · exact h2 _ e
theorem delta_mem (l : List (Nat × Int)) (hl : l ≠ []) : ∃ p ∈ l, delta c f l = room c f p := by
  unfold delta
  cases h : l.map (room c f) with
  | nil => simp at h; exact absurd h hl
  | cons r rs =>
    have : minI r rs ∈ l.map (room c f) := by
      rw [h]
      rcases minI_mem rs r with e | e
      · rw [e]; simp
      · exact List.mem_cons_of_mem _ e
    obtain ⟨p, hp, e⟩ := List.mem_map.1 this
    exact ⟨p, hp, e.symm⟩
/-- what a stream keeps -/
structure Strm (V : Nat) (es : List (Nat × Nat)) (c f : List Int) (st en_ : Nat) (sc val : Int) : Prop where
  len : f.length = es.length
  feas : Feas c f
  cons : ∀ w, w < V → w ≠ st → w ≠ en_ → exs es f w = 0
  val : exs es f en_ = val
  dvd : ∀ j, sc ∣ Ff f j
theorem strm_step {sc val : Int} (S : Strm V es c f st en_ sc val) (hc : c.length = es.length) (hne : st ≠ en_) (hsc : 0 < sc) (hcd : ∀ j, sc ∣ Ff c j) {l : List (Nat × Int)} (h : Chain es c f st en_ l) (nd : (l.map Prod.fst).Nodup) : Strm V es c (addL (delta c f l) f l) st en_ sc (val + delta c f l) ∧ sc ≤ delta c f l := by
  have hl : l ≠ [] := by
    rintro rfl
    cases h
    exact hne rfl
  obtain ⟨p, hp, hd⟩ := delta_mem (c := c) (f := f) l hl
  have hmem := chain_mem h
  obtain ⟨u, v, hr⟩ := hmem p hp
  obtain ⟨_, hpos, _⟩ := res_sgn hr
  have hdv : sc ∣ delta c f l := by
    rw [hd]
    unfold room
    split
    · exact Int.dvd_sub (hcd _) (S.dvd _)
    · exact S.dvd _
  have hge : sc ≤ delta c f l := Int.le_of_dvd (by rw [hd]; exact hpos) hdv
  refine ⟨⟨?_, ?_, ?_, ?_, ?_⟩, hge⟩
  · rw [addL_len]; exact S.len
  · refine addL_feas c _ l f nd ?_ S.feas
    intro q hq
    obtain ⟨u, v, hr⟩ := hmem q hq
    have hlt := hr.lt
    have hql : q.1 < f.length := by rw [S.len]; exact hlt
    obtain ⟨_, _, h3⟩ := res_sgn hr
    obtain ⟨f1, f2⟩ := S.feas q.1 hql
    exact ⟨hql, h3 _ (by omega) (delta_le l q hq) f1 f2⟩
  · intro w hw h1 h2
    rw [chain_exs _ h f S.len, S.cons w hw h1 h2, if_neg h2, if_neg h1]; rfl
  · rw [chain_exs _ h f S.len, S.val, if_pos rfl, if_neg (Ne.symm hne)]; omega
  · refine addL_dvd sc _ hdv l f ?_ S.dvd
    intro q hq
    obtain ⟨u, v, hr⟩ := hmem q hq
    rw [S.len]; exact hr.lt
theorem exs_le (S : Feas c f) (hl : f.length = es.length) (w : Nat) : exs es f w ≤ Su (Ff c) es.length := by
  unfold exs
  refine Su_le fun j hj => ?_
  obtain ⟨h1, h2⟩ := S j (by omega)
  split <;> split <;> omega
abbrev Hs (V : Nat) (es : List (Nat × Nat)) (c f : List Int) (oc : Bool) (st en_ : Nat) (val : Int) (ws : List W) (x7 x8 x9 x10 : D) : Env := [G V es, .lst oc (I c), .int st, .int en_, .lst true (I f), .int val, Wd ws, x7, x8, x9, x10]
theorem gs_body (oc : Bool) (hE : inR V es) (hl : es.length ≤ 1000) (hV : V ≤ 100) (hc : c.length = es.length) (hst : st < V) (hne : st ≠ en_) {sc val : Int} (hsc : 0 < sc) (hcd : ∀ j, sc ∣ Ff c j) (S : Strm V es c f st en_ sc val) (hw : Ways V es c f st ws) (hen : en_ ∈ ky ws) (x7 x8 x9 x10 : D)
    (h9 : (x9 = .gone ∧ x10 = .gone) ∨ ∃ i j, x9 = .int i ∧ x10 = .int j) :
    ∃ f' ws' y7 y8 y9 y10 d, dSs c_greatest_stream lx_greatest_stream_4 (Hs V es c f oc st en_ val ws x7 x8 x9 x10) = .nx (Hs V es c f' oc st en_ (val + d) ws' y7 y8 y9 y10) ∧ Strm V es c f' st en_ sc (val + d) ∧ sc ≤ d ∧ Ways V es c f' st ws' ∧ (∀ u ∈ ky ws', Clo es c f' ws' u) ∧ ((y9 = .gone ∧ y10 = .gone) ∨ ∃ i j, y9 = .int i ∧ y10 = .int j) := by
  obtain ⟨l, e1, hch, nd, hll⟩ := way_ok hw hV en_ hen
  obtain ⟨S2, hd⟩ := strm_step S hc hne hsc hcd hch nd
  have hmem := chain_mem hch
  have hpl : ∀ p ∈ l, p.1 < es.length ∧ (p.2 = 1 ∨ p.2 = -1) := fun p hp => by
    obtain ⟨u, v, hr⟩ := hmem p hp
    exact ⟨hr.lt, (res_sgn hr).1⟩
  have hlne : l ≠ [] := by
    rintro rfl
    cases hch
    exact hne rfl
  obtain ⟨r, rs, hrs⟩ : ∃ r rs, l.map (room c f) = r :: rs := by
    cases h : l.map (room c f) with
    | nil => simp at h; exact absurd h hlne
    | cons r rs => exact ⟨r, rs, rfl⟩
  have hdl : delta c f l = minI r rs := by unfold delta; rw [hrs]
  have e2 : compL (turnC c_greatest_stream (.tup (.cons (.var 9) (.cons (.var 10) .nil))) [9, 10] .nil ex_greatest_stream_3) (l.map sp) [G V es, .lst oc (I c), .int st, .int en_, .lst true (I f), .int val, Wd ws, .gone, x8, .gone, .gone] none = .ok (I (r :: rs), none) := by
    rw [comp_one sp (fun p => .int (room c f p))]
    · rw [← hrs, I, List.map_map]; rfl
    · intro p hp
      exact room_turn c_greatest_stream _ _ _ _ _ oc true c f p (by rw [hc]; exact (hpl p hp).1) (by rw [S.len]; exact (hpl p hp).1)
  obtain ⟨ρ, e3, h3, y9, y10, h4, rfl⟩ := loop_foldR (turn := turnF c_greatest_stream (.tup (.cons (.var 9) (.cons (.var 10) .nil))) lx_greatest_stream_2) sp (fun g p => g.set p.1 (Ff g p.1 + p.2 * minI r rs)) (fun g ρ => g.length = es.length ∧ ∃ y9 y10, ((y9 = .gone ∧ y10 = .gone) ∨ ∃ i j, y9 = .int i ∧ y10 = .int j) ∧ ρ = [G V es, .lst oc (I c), .int st, .int en_, .lst true (I g), .int val, Wd ws, .gone, .lst true (I (r :: rs)), y9, y10]) l f [G V es, .lst oc (I c), .int st, .int en_, .lst true (I f), .int val, Wd ws, .gone, .lst true (I (r :: rs)), x9, x10] ⟨S.len, x9, x10, h9, rfl⟩ (by
    rintro g p _ hp ⟨hg, y9, y10, _, rfl⟩
    refine ⟨_, aug_turn _ _ _ _ _ _ g r rs p (hpl p hp).2 (by rw [hg]; exact (hpl p hp).1) y9 y10, by simpa using hg, .int p.1, .int p.2, .inr ⟨_, _, rfl, rfl⟩, rfl⟩)
  have hfold : l.foldl (fun g p => g.set p.1 (Ff g p.1 + p.2 * minI r rs)) f = addL (delta c f l) f l := by rw [hdl]; rfl
  rw [hfold] at e3 h3
  obtain ⟨ws', e4, hw', hcl⟩ := open_ok V es c (addL (delta c f l) f l) st oc true hE hl hV hc h3 hst
  refine ⟨_, ws', .lst true (l.map sp), .lst true (I (r :: rs)), y9, y10, delta c f l, ?_, S2, hd, hw', hcl, h4⟩
  have hll2 : rs.length + 1 ≤ 16777216 := by
    have := congrArg List.length hrs
    simp at this
    omega
  rw [hdl] at e3 e4 ⊢
  rw [show I (r :: rs) = .int r :: I rs from rfl] at e2 e3
  cases oc <;> rcases h9 with ⟨rfl, rfl⟩ | ⟨i, j, rfl, rfl⟩ <;> simp [lx_greatest_stream_4, e1, e2, e3, e4, hll2]
end
end k87
namespace k87
open Mp Mq
section
variable {V : Nat} {es : List (Nat × Nat)} {c f : List Int} {st en_ : Nat} {ws : List W}
theorem dct_in (C : Cfg) (ks : List Nat) (vs : List D) (k : Nat) : cmpD .in_ (.int k) (.dct true true (N ks) vs) = some (.bl (decide (k ∈ ks))) := by
  rw [cd_in_dct, memD_N]
  simp
theorem gs_loop (oc : Bool) (hE : inR V es) (hl : es.length ≤ 1000) (hV : V ≤ 100) (hc : c.length = es.length) (hst : st < V) (hne : st ≠ en_) {sc : Int} (hsc : 0 < sc) (hcd : ∀ j, sc ∣ Ff c j) : ∀ (n : Nat) (f : List Int) (val : Int) (ws : List W) (x7 x8 x9 x10 : D), Su (Ff c) es.length < val + sc * n → Strm V es c f st en_ sc val → Ways V es c f st ws → (∀ u ∈ ky ws, Clo es c f ws u) → ((x9 = .gone ∧ x10 = .gone) ∨ ∃ i j, x9 = .int i ∧ x10 = .int j) →
    ∃ f' ws' val' y7 y8 y9 y10, loopW (dT c_greatest_stream tx_greatest_stream_1) (dSs c_greatest_stream lx_greatest_stream_4) n (Hs V es c f oc st en_ val ws x7 x8 x9 x10) = .nx (Hs V es c f' oc st en_ val' ws' y7 y8 y9 y10) ∧ Strm V es c f' st en_ sc val' ∧ Ways V es c f' st ws' ∧ (∀ u ∈ ky ws', Clo es c f' ws' u) ∧ en_ ∉ ky ws' := by
  intro n
  induction n with
  | zero =>
    intro f val ws _ _ _ _ hn S _ _ _
    have h1 := exs_le S.feas S.len en_
    rw [S.val] at h1
    simp at hn
    omega
  | succ n ih =>
    intro f val ws x7 x8 x9 x10 hn S hw hcl h9
    by_cases hen : en_ ∈ ky ws
    · obtain ⟨f', ws', y7, y8, y9, y10, d, e, S', hd, hw', hcl', h9'⟩ := gs_body oc hE hl hV hc hst hne hsc hcd S hw hen x7 x8 x9 x10 h9
      obtain ⟨f2, ws2, v2, z7, z8, z9, z10, e2, a1, a2, a3, a4⟩ := ih f' (val + d) ws' y7 y8 y9 y10 (by
        have : sc * ((n + 1 : Nat) : Int) = sc * n + sc := by simp [Int.mul_add]
        omega) S' hw' hcl' h9'
      refine ⟨f2, ws2, v2, z7, z8, z9, z10, ?_, a1, a2, a3, a4⟩
      rw [loopW_go _ e]
      · exact e2
      · have := memD_N en_ (ky ws)
        simp only [hen, decide_true, N, ky, List.map_map] at this
        simp [tx_greatest_stream_1, this]
    · refine ⟨f, ws, val, x7, x8, x9, x10, loopW_end ?_, S, hw, hcl, hen⟩
      have := memD_N en_ (ky ws)
      simp only [hen, decide_false, N, ky, List.map_map] at this
      simp [tx_greatest_stream_1, this]
theorem cut_val (hE : inR V es) (hc : c.length = es.length) (hen : en_ < V) {sc val : Int} (S : Strm V es c f st en_ sc val) (hw : Ways V es c f st ws) (hcl : ∀ u ∈ ky ws, Clo es c f ws u) (hne : en_ ∉ ky ws) : capa es c (fun v => decide (v ∈ ky ws)) = val := by
  have hs : st ∈ ky ws := by
    have := hw.hd
    exact List.mem_map_of_mem (f := Prod.fst) (List.mem_of_getElem? this)
  rw [← S.val, net V es f st en_ hE hen S.cons (fun v => decide (v ∈ ky ws)) (by simpa using hs) (by simpa using hne)]
  unfold capa
  refine Su_congr fun j hj => ?_
  have hq : es[j]? = some (Ee es j) := by simp [Ee, List.getD, hj]
  obtain ⟨h1, h2⟩ := S.feas j (by rw [S.len]; exact hj)
  by_cases a1 : (Ee es j).1 ∈ ky ws <;> by_cases a2 : (Ee es j).2 ∈ ky ws
  · simp [a1, a2]
  · have : ¬ Ff f j < Ff c j := fun hlt => a2 (hcl _ a1 j 1 _ (.inl ⟨rfl, hq, hlt⟩))
    simp [a1, a2]; omega
  · have : ¬ 0 < Ff f j := fun hlt => a1 (hcl _ a2 j (-1) _ (.inr ⟨rfl, hq, hlt⟩))
    simp [a1, a2]; omega
  · simp [a1, a2]
theorem minI_low : ∀ (xs : List Int) (m k : Int), minI m xs < k ↔ m < k ∨ ∃ x ∈ xs, x < k
  | [], m, k => by simp [minI]
  | y :: xs, m, k => by
    simp only [minI, minI_low xs, List.mem_cons]
    constructor
    · rintro (h | ⟨x, hx, h⟩)
      · split at h
        · exact .inr ⟨y, .inl rfl, h⟩
        · exact .inl h
      · exact .inr ⟨x, .inr hx, h⟩
    · rintro (h | ⟨x, rfl | hx, h⟩)
      · left; split <;> omega
      · left; split <;> omega
      · exact .inr ⟨x, hx, h⟩
theorem minI_cons0 (x : Int) (c : List Int) : ∃ r rs, c.map D.int ++ [D.int 0] = D.int r :: rs.map D.int ∧ (minI r rs < 0 ↔ ∃ x ∈ c, x < 0) := by
  cases c with
  | nil => exact ⟨0, [], rfl, by simp [minI]⟩
  | cons r rs =>
    refine ⟨r, rs ++ [0], by simp, ?_⟩
    rw [minI_low]
    simp only [List.mem_append, List.mem_cons, List.not_mem_nil, or_false, List.mem_singleton]
    constructor
    · rintro (h | ⟨x, hx | rfl, h⟩)
      · exact ⟨r, .inl rfl, h⟩
      · exact ⟨x, .inr hx, h⟩
      · omega
    · rintro ⟨x, rfl | hx, h⟩
      · exact .inl h
      · exact .inr ⟨x, .inl hx, h⟩
theorem cap_ok (oc : Bool) (hl : es.length ≤ 1000) (hc : c.length = es.length) (hp : ∀ x ∈ c, 0 ≤ x) : m_check_capacities [G V es, .lst oc (I c)] = .ok .non [G V es, .lst oc (I c)] := by
  obtain ⟨r, rs, e, h⟩ := minI_cons0 0 c
  have h2 : ¬ minI r rs < 0 := fun z => by
    obtain ⟨x, hx, h3⟩ := h.1 z
    have := hp x hx
    omega
  have hl2 : es.length + 1 ≤ 16777216 := by omega
  simp [m_check_capacities, b_check_capacities, dF, small64_eq, hc, e, h2, hl2]
theorem cap_no (oc : Bool) (hl : c.length ≤ 1000) (hc : c.length ≠ es.length ∨ ∃ x ∈ c, x < 0) : m_check_capacities [G V es, .lst oc (I c)] = .exc 2 (.str "capacities") := by
  by_cases hcl : c.length = es.length
  · obtain ⟨r, rs, e, h⟩ := minI_cons0 0 c
    have h2 : minI r rs < 0 := h.2 (hc.resolve_left (by simp [hcl]))
    have hl2 : es.length + 1 ≤ 16777216 := by omega
    simp [m_check_capacities, b_check_capacities, dF, small64_eq, hcl, e, h2, hl2]
  · simp [m_check_capacities, b_check_capacities, dF, small64_eq, hcl]
theorem ends_ok (hst : st < V) (hen : en_ < V) (hne : st ≠ en_) : m_check_ends [G V es, .int st, .int en_] = .ok .non [G V es, .int st, .int en_] := by
  simp [m_check_ends, b_check_ends, dF, small64_eq, hst, hen, hne]
theorem ends_no (h : st = en_ ∨ ¬ st < V ∨ ¬ en_ < V) : m_check_ends [G V es, .int st, .int en_] = .exc 1 (.str "vertex") := by
  by_cases h1 : st = en_ <;> by_cases h2 : st < V <;> by_cases h3 : en_ < V <;> simp [m_check_ends, b_check_ends, dF, small64_eq, h1, h2, h3] <;> simp_all
theorem repl0 (n : Nat) : (List.replicate n [D.int 0]).flatten = I (List.replicate n 0) := by
  induction n with
  | zero => rfl
  | succ n ih => simp [List.replicate_succ, ih]
theorem Ff_repl (n j : Nat) : Ff (List.replicate n 0) j = 0 := by
  simp only [Ff, List.getD]
  by_cases h : j < n
  · simp [h]
  · rw [List.getElem?_eq_none (by simp; omega)]; rfl
/-- the answer: a stream, its value, a cut of that value -/
structure Great (V : Nat) (es : List (Nat × Nat)) (c : List Int) (st en_ : Nat) (sc : Int) (f : List Int) (val : Int) (cut : List Nat) : Prop where
  strm : Strm V es c f st en_ sc val
  asc : cut.Pairwise (· < ·)
  lt : ∀ v ∈ cut, v < V
  st : st ∈ cut
  en_ : en_ ∉ cut
  cap : capa es c (fun v => decide (v ∈ cut)) = val
theorem great_ok (oc : Bool) (hE : inR V es) (hl : es.length ≤ 1000) (hV : V ≤ 50) (hc : c.length = es.length) (hp : ∀ x ∈ c, 0 ≤ x) (hst : st < V) (hen : en_ < V) (hne : st ≠ en_) {sc : Int} (hsc : 0 < sc) (hcd : ∀ j, sc ∣ Ff c j) (hb : Su (Ff c) es.length < sc * 100000) :
    ∃ f val cut, m_greatest_stream [G V es, .lst oc (I c), .int st, .int en_] = .ok (.tup [.int val, .lst true (I f), .tup (N cut)]) [G V es, .lst oc (I c), .int st, .int en_] ∧ Great V es c st en_ sc f val cut := by
  have e1 := cap_ok (V := V) oc hl hc hp
  have e2 := ends_ok (V := V) (es := es) hst hen hne
  have S0 : Strm V es c (List.replicate es.length 0) st en_ sc 0 := by
    have hz : ∀ w, exs es (List.replicate es.length 0) w = 0 := fun w => by
      have : exs es (List.replicate es.length 0) w = Su (fun _ => 0) es.length := Su_congr fun j hj => by
        rw [Ff_repl]; simp
      rw [this, Su_zero]
    refine ⟨by simp, ?_, fun w _ _ _ => hz w, hz _, fun j => ?_⟩
    · intro j hj
      rw [Ff_repl]
      refine ⟨Int.le_refl _, ?_⟩
      have hjc : j < c.length := by simpa [hc] using hj
      have : Ff c j = c[j] := by simp [Ff, List.getD, hjc]
      rw [this]
      exact hp _ (List.getElem_mem _)
    · rw [Ff_repl]; exact Int.dvd_zero _
  obtain ⟨ws, e3, hw, hcl⟩ := open_ok V es c (List.replicate es.length 0) st oc true hE hl (by omega) hc (by simp) hst
  obtain ⟨f, ws', val, y7, y8, y9, y10, e4, S, hw', hcl', hn⟩ := gs_loop (es := es) (c := c) (st := st) (en_ := en_) oc hE hl (by omega) hc hst hne hsc hcd 100000 _ 0 ws .gone .gone .gone .gone (by simpa using hb) S0 hw hcl (.inl ⟨rfl, rfl⟩)
  have hlen := hw'.len
  have hs : st ∈ ky ws' := List.mem_map_of_mem (f := Prod.fst) (List.mem_of_getElem? hw'.hd)
  refine ⟨f, val, srt (ky ws'), ?_, S, srt_lt _ hw'.nd, fun v hv => hw'.lt v ((mem_srt _ _).1 hv), (mem_srt _ _).2 hs, fun z => hn ((mem_srt _ _).1 z), ?_⟩
  · have hm := bd_mul_l true [D.int 0] es.length (by simp) (by omega) (by simp; omega)
    rw [repl0] at hm
    have h64 : ws'.length < 64 := by omega
    have hl2 : ws'.length ≤ 16777216 := by omega
    have hN := N_srt (ky ws')
    have ht : toInts (List.map ((fun n : Nat => D.int n) ∘ Prod.fst) ws') = some ((ky ws').map fun n : Nat => (n : Int)) := by
      have := toInts_mapf (fun w : W => (w.1 : Int)) ws'
      simpa [Function.comp_def, ky] using this
    have hkl : ((ky ws').map fun n : Nat => (n : Int)).length = ws'.length := by simp
    have hsl : (sortI ((ky ws').map fun n : Nat => (n : Int))).length = ws'.length := by rw [sort_len]; simp
    generalize hq : ((ky ws').map fun n : Nat => (n : Int)) = q at hN ht hkl hsl
    rw [hN]
    cases oc <;> simp [-List.map_replicate, m_greatest_stream, b_greatest_stream, dF, small64_eq, e1, e2, hm, e3, e4, h64, hl2, ht, hkl, hsl]
  · rw [← cut_val hE hc hen S hw' hcl' hn]
    unfold capa
    refine Su_congr fun j _ => ?_
    simp only [mem_srt]
end
end k87
namespace k87
open Mp Mq
theorem zip_enc (es : List (Nat × Nat)) (f : List Int) (h : f.length = es.length) : zipL (Ed es) (I f) = (List.range es.length).map fun j => D.tup [en (Ee es j), .int (Ff f j)] := by
  induction es generalizing f with
  | nil => cases f <;> simp [zipL]
  | cons e es ih =>
    cases f with
    | nil => simp at h
    | cons x f =>
      simp only [List.length_cons, Nat.add_right_cancel_iff] at h
      have := ih f h
      simp only [Ed, I] at this
      simp only [Ed, I, List.map_cons, zipL, this, List.length_cons, List.range_succ_eq_map, List.map_map]
      congr 1
theorem turnF_nest (C i j k body x y z r) : turnF C (.tup (.cons (.tup (.cons (.var i) (.cons (.var j) .nil))) (.cons (.var k) .nil))) body (.tup [.tup [x, y], z]) r = dSs C body (((r.set i x).set j y).set k z) := (rfl)
/-- the sums so far -/
def exq (es : List (Nat × Nat)) (f : List Int) (i w : Nat) : Int := Su (fun j => (if (Ee es j).2 = w then Ff f j else 0) - if (Ee es j).1 = w then Ff f j else 0) i
theorem exq_all (es f w) : exq es f es.length w = exs es f w := rfl
abbrev Xq (V : Nat) (es : List (Nat × Nat)) (f : List Int) (i : Nat) : List Int := (List.range V).map (exq es f i)
theorem exq_set (V : Nat) (es : List (Nat × Nat)) (f : List Int) (i a b : Nat) (ha : a < V) (hb : b < V) (hi : Ee es i = (a, b)) :
    ((Xq V es f i).set a (exq es f i a - Ff f i)).set b ((if a = b then exq es f i a - Ff f i else exq es f i b) + Ff f i) = Xq V es f (i + 1) := by
  apply List.ext_getElem
  · simp
  · intro w h1 h2
    simp only [List.length_set, List.length_map, List.length_range] at h1
    have e1 : exq es f (i + 1) w = exq es f i w + ((if b = w then Ff f i else 0) - if a = w then Ff f i else 0) := by
      show Su _ (i + 1) = _
      simp only [Su, hi]
      rfl
    rw [List.getElem_set, List.getElem_set]
    simp only [Xq, List.getElem_map, List.getElem_range, e1]
    by_cases c1 : b = w <;> by_cases c2 : a = w <;> by_cases c3 : a = b <;> simp only [c1, c2, c3, if_true, if_false] <;> (try subst c1) <;> (try subst c2) <;> (try simp_all) <;> (try omega)
section
variable {V : Nat} {es : List (Nat × Nat)} {c f : List Int}
theorem excess_ok (hE : inR V es) (hV : V ≤ 100) (hf : f.length = es.length) : m_excess [G V es, .lst false (I f)] = .ok (.lst true (I (Xq V es f es.length))) [G V es, .lst false (I f)] := by
  obtain ⟨ρ, e, x3, x4, x5, rfl⟩ := loop_pre (turn := turnF c_excess (.tup (.cons (.tup (.cons (.var 4) (.cons (.var 5) .nil))) (.cons (.var 3) .nil))) lx_excess_1) (fun j => D.tup [en (Ee es j), .int (Ff f j)]) (fun i ρ => ∃ x3 x4 x5, ρ = [G V es, .lst false (I f), .lst true (I (Xq V es f i)), x3, x4, x5]) (List.range es.length) (ρ := [G V es, .lst false (I f), .lst true (I (Xq V es f 0)), .gone, .gone, .gone]) ⟨.gone, .gone, .gone, rfl⟩ (by
    rintro i hi _ ⟨x3, x4, x5, rfl⟩
    simp only [List.length_range] at hi
    obtain ⟨a, b, hab⟩ : ∃ a b, Ee es i = (a, b) := ⟨_, _, rfl⟩
    have hm : Ee es i ∈ es := by simp [Ee, List.getD, hi]
    have hr := hE _ hm
    rw [hab] at hr
    obtain ⟨ha, hb⟩ := hr
    simp only at ha hb
    refine ⟨_, ?_, .int (Ff f i), .int a, .int b, rfl⟩
    rw [List.getElem_range, hab, en, turnF_nest, ← exq_set V es f i a b ha hb hab]
    by_cases hne : a = b
    · subst hne
      simp [lx_excess_1, ha, storeI, putD]
    · simp [lx_excess_1, ha, hb, storeI, putD, hne])
  have e0 : I (Xq V es f 0) = List.replicate V (D.int 0) := by
    simp only [I, Xq, List.map_map]
    apply List.ext_getElem
    · simp
    · intro w h1 h2
      simp [exq, Su]
  have hm := bd_mul_l true [D.int 0] V (by simp) (by omega) (by simp; omega)
  have hre : (List.replicate V [D.int 0]).flatten = List.replicate V (D.int 0) := by
    rw [repl0, I, List.map_replicate]
  rw [hre] at hm
  rw [e0, List.length_range] at e
  rw [← zip_enc es f hf] at e
  simp [m_excess, b_excess, dF, small64_eq, hm, e]
theorem memD_sides (side : List Nat) (v : Nat) : memD (.int v) (N side) = decide (v ∈ side) := memD_N v side
def caps (es : List (Nat × Nat)) (c : List Int) (side : List Nat) (i : Nat) : Int := Su (fun j => if decide ((Ee es j).1 ∈ side) = true ∧ decide ((Ee es j).2 ∈ side) = false then Ff c j else 0) i
theorem caps_all (es c side) : caps es c side es.length = capa es c fun v => decide (v ∈ side) := rfl
theorem caps_succ (es c side i) : caps es c side (i + 1) = caps es c side i + if decide ((Ee es i).1 ∈ side) = true ∧ decide ((Ee es i).2 ∈ side) = false then Ff c i else 0 := rfl
theorem outsum_ok (o : Bool) (side : List Nat) (hc : c.length = es.length) : m_out_sum [G V es, .lst o (I c), .tup (N side)] = .ok (.int (capa es c fun v => decide (v ∈ side))) [G V es, .lst false (I c), .tup (N side)] := by
  obtain ⟨ρ, e, x3, x4, x5, rfl⟩ := loop_pre (turn := turnF c_out_sum (.tup (.cons (.tup (.cons (.var 5) (.cons (.var 6) .nil))) (.cons (.var 4) .nil))) lx_out_sum_1) (fun j => D.tup [en (Ee es j), .int (Ff c j)]) (fun i ρ => ∃ x3 x4 x5, ρ = [G V es, .lst false (I c), .tup (N side), .int (caps es c side i), x3, x4, x5]) (List.range es.length) (ρ := [G V es, .lst false (I c), .tup (N side), .int 0, .gone, .gone, .gone]) ⟨.gone, .gone, .gone, rfl⟩ (by
    rintro i hi _ ⟨x3, x4, x5, rfl⟩
    obtain ⟨a, b, hab⟩ : ∃ a b, Ee es i = (a, b) := ⟨_, _, rfl⟩
    refine ⟨_, ?_, .int (Ff c i), .int a, .int b, rfl⟩
    rw [List.getElem_range, turnF_nest]
    simp only [caps_succ, hab]
    have ma := memD_N a side
    have mb := memD_N b side
    simp only [N] at ma mb
    by_cases h1 : a ∈ side <;> by_cases h2 : b ∈ side <;> simp [lx_out_sum_1, h1, h2, ma, mb])
  rw [List.length_range, ← zip_enc es c hc] at e
  rw [caps_all] at e
  cases o <;> simp [m_out_sum, b_out_sum, dF, small64_eq, e]
theorem asc_sort (side : List Nat) (h : side.Pairwise (· < ·)) : sortI (dedI (Z side)) = Z side := by
  refine sort_of_asc _ ?_
  rw [Z, List.pairwise_map]
  exact h.imp (by intro a b h; omega)
theorem vset_ok (side : List Nat) (h : side.Pairwise (· < ·)) (hl : side.length < 60) (hv : ∀ v ∈ side, v < V) : m_is_vertex_set [G V es, .tup (N side)] = .ok (.bl true) [G V es, .tup (N side)] := by
  have h1 := asc_sort side h
  have ht : toInts (N side) = some (Z side) := by rw [N_Z, toInts_map]
  have e1 : blD .sortedset [.tup (N side)] = some (.lst true (N side)) := by
    rw [bl_sortedset_t, ht]
    simp only [Z, List.length_map, hl, decide_true, if_true]
    rw [h1, ← N_Z]
  have e2 : eqL (N side) (N side) = true := by
    rw [N_Z, eqL_ints]; simp
  have hc : compL (turnC c_is_vertex_set (.var 2) [2] .nil ex_is_vertex_set_1) (N side) [G V es, .gone, .gone] none = .ok (side.map fun _ => .bl true, none) := by
    refine comp_one (fun n : Nat => D.int n) (fun _ => .bl true) ?_
    intro v hv2
    have := hv v hv2
    simp [turnC_var, ex_is_vertex_set_1, this]
  have hb : bools (side.map fun _ => D.bl true) = some (side.map fun _ => true) := by
    clear h hl hv h1 ht e1 e2 hc
    induction side with
    | nil => rfl
    | cons x s ih => simp [bools, ih]
  have hall : (side.map fun _ => true).all id = true := by simp
  have hl2 : side.length ≤ 16777216 := by omega
  have hokl := okL_N 63 side
  have hsh := shL_N side
  generalize N side = q at *
  simp [m_is_vertex_set, b_is_vertex_set, dF, small64_eq, isTy, tyD, tyEq, e1, e2, hc, hb, hl2, hokl, hsh]
end
end k87
namespace k87
open Mp Mq
def subs : Nat → List (List Nat)
  | 0 => [[]]
  | n + 1 => subs n ++ (subs n).map (· ++ [n])
theorem subs_len : ∀ n, (subs n).length = 2 ^ n
  | 0 => rfl
  | n + 1 => by simp [subs, subs_len n, Nat.pow_succ]; omega
theorem mem_subs : ∀ (n : Nat) (r : List Nat), r ∈ subs n ↔ r.Pairwise (· < ·) ∧ ∀ x ∈ r, x < n
  | 0, r => by
    simp only [subs, List.mem_singleton]
    constructor
    · rintro rfl; simp
    · rintro ⟨_, h⟩
      cases r with
      | nil => rfl
      | cons x r => have := h x (by simp); omega
  | n + 1, r => by
    simp only [subs, List.mem_append, List.mem_map, mem_subs n]
    constructor
    · rintro (⟨h1, h2⟩ | ⟨s, ⟨h1, h2⟩, rfl⟩)
      · exact ⟨h1, fun x hx => by have := h2 x hx; omega⟩
      · refine ⟨?_, ?_⟩
        · rw [List.pairwise_append]
          refine ⟨h1, by simp, ?_⟩
          intro a ha b hb
          simp at hb
          subst hb
          exact h2 a ha
        · intro x hx
          rcases List.mem_append.1 hx with h | h
          · have := h2 x h; omega
          · simp at h; omega
    · rintro ⟨h1, h2⟩
      rcases List.eq_nil_or_concat r with rfl | ⟨s, y, rfl⟩
      · left; simp
      · rw [List.concat_eq_append] at h1 h2 ⊢
        rw [List.pairwise_append] at h1
        by_cases hy : y = n
        · subst hy
          right
          refine ⟨s, ⟨h1.1, fun x hx => ?_⟩, rfl⟩
          exact h1.2.2 x hx y (by simp)
        · left
          have hyn : y < n := by have := h2 y (by simp); omega
          refine ⟨List.pairwise_append.2 h1, ?_⟩
          intro x hx
          rcases List.mem_append.1 hx with h | h
          · have := h1.2.2 x h y (by simp); omega
          · simp at h; omega
abbrev tp (r : List Nat) : D := .tup (N r)
theorem shL_tp (L : List (List Nat)) : shL (L.map tp) = true := shL_map _ L (by simp)
theorem eqL_N (a b : List Nat) : eqL (N a) (N b) = decide (a = b) := by
  rw [N_Z, N_Z, eqL_ints]
  have : Z a = Z b ↔ a = b := by
    constructor
    · intro h
      exact (List.map_inj_right (fun x y h => by simpa using h)).1 h
    · intro h; rw [h]
  simp [this]
theorem memD_T (s : List Nat) : ∀ L : List (List Nat), memD (tp s) (L.map tp) = decide (s ∈ L)
  | [] => rfl
  | r :: L => by
    have ih := memD_T s L
    show (eqD (tp r) (tp s) || memD (tp s) (L.map tp)) = _
    rw [ih, eqD_tup, eqL_N]
    by_cases h : r = s
    · subst h; simp
    · have : ¬ s = r := fun z => h z.symm
      simp [h, this]
theorem okL_T (n : Nat) (L : List (List Nat)) : okL (n + 1) (L.map tp) = true := okL_of _ (by
  intro x hx
  obtain ⟨r, _, rfl⟩ := List.mem_map.1 hx
  rw [okD_tup]
  exact okL_N n r)
theorem subs_ok (n : Nat) (hn : n ≤ 10) : m_l_law_subsets [.int n] = .ok (.lst true ((subs n).map tp)) [.int n] := by
  obtain ⟨ρ, e, x2, rfl⟩ := loop_rng (turn := turnF c_l_law_subsets (.var 2) lx_l_law_subsets_2) (fun i ρ => ∃ x2, ρ = [.int n, .lst true ((subs i).map tp), x2, .gone]) n (ρ := [.int n, .lst true ((subs 0).map tp), .gone, .gone]) ⟨.gone, rfl⟩ (by
    rintro i _ hi ⟨x2, rfl⟩
    refine ⟨_, ?_, .int i, rfl⟩
    rw [turnF_var]
    have hl := subs_len i
    have hp : 2 ^ i ≤ 2 ^ 10 := Nat.pow_le_pow_right (by omega) (by omega)
    have hc := comp_one (turn := turnC c_l_law_subsets (.var 3) [3] .nil ex_l_law_subsets_1) tp (fun r => tp (r ++ [i])) (xs := subs i) (ρ := [.int n, .gone, .int i, .gone]) (by
      intro r hr
      have hr2 := (mem_subs i r).1 hr
      have := nodup_lt i r (hr2.1.imp fun h => by omega) hr2.2
      have hl : r.length + 1 ≤ 16777216 := by omega
      simp [turnC_var, ex_l_law_subsets_1, hl])
    have hl2 : (subs i).length ≤ 16777216 := by omega
    have hl3 : (subs i).length + (subs i).length ≤ 16777216 := by omega
    have hs := shL_tp (subs i)
    have hs2 : shL ((subs i).map fun r => tp (r ++ [i])) = true := shL_map _ _ (by simp)
    have hm : List.map tp (subs (i + 1)) = (subs i).map tp ++ (subs i).map fun r => tp (r ++ [i]) := by simp [subs, Function.comp_def]
    rw [hm]
    simp [lx_l_law_subsets_2, hc, hs, hs2, hl2, hl3])
  have hr : okR (n : Int) = true := okR_nat _ (by omega)
  have hl2 : n ≤ 16777216 := by omega
  have h0 : (subs 0).map tp = [.tup []] := rfl
  rw [h0] at e
  simp [m_l_law_subsets, b_l_law_subsets, dF, small64_eq, hr, hl2, e]
end k87
namespace k87
open Mp Mq
theorem Su_split (g : Nat → Int) (n : Nat) : ∀ m, Su g (n + m) = Su g n + Su (fun j => g (n + j)) m
  | 0 => by simp [Su]
  | m + 1 => by
    show Su g (n + m) + g (n + m) = _
    rw [Su_split g n m]
    simp only [Su]; omega
theorem Su_sat {g h : Nat → Int} : ∀ {n : Nat}, (∀ j, j < n → g j ≤ h j) → Su h n ≤ Su g n → ∀ j, j < n → g j = h j
  | 0, _, _, j, hj => by omega
  | n + 1, k, e, j, hj => by
    have h1 := Su_le (n := n) fun j hj => k j (by omega)
    have h2 := k n (by omega)
    simp only [Su] at e
    by_cases hjn : j = n
    · subst hjn; omega
    · exact Su_sat (n := n) (fun j hj => k j (by omega)) (by omega) j (by omega)
theorem Ee_app (a b : List (Nat × Nat)) (j : Nat) : Ee (a ++ b) j = if j < a.length then Ee a j else Ee b (j - a.length) := by
  simp only [Ee, List.getD, List.getElem?_append]
  split <;> rfl
theorem Ff_app (a b : List Int) (j : Nat) : Ff (a ++ b) j = if j < a.length then Ff a j else Ff b (j - a.length) := by
  simp only [Ff, List.getD, List.getElem?_append]
  split <;> rfl
theorem Ff_take (f : List Int) (n j : Nat) (h : j < n) : Ff (f.take n) j = Ff f j := by
  simp only [Ff, List.getD]
  rw [List.getElem?_take]; simp [h]
theorem Ff_drop (f : List Int) (n j : Nat) : Ff (f.drop n) j = Ff f (n + j) := by
  simp only [Ff, List.getD]
  rw [List.getElem?_drop]
/-- sums over appended edges -/
theorem Su_app (φ : Nat × Nat → Int → Int) (es xe : List (Nat × Nat)) (f : List Int) : Su (fun j => φ (Ee (es ++ xe) j) (Ff f j)) (es ++ xe).length = Su (fun j => φ (Ee es j) (Ff (f.take es.length) j)) es.length + Su (fun j => φ (Ee xe j) (Ff (f.drop es.length) j)) xe.length := by
  rw [List.length_append, Su_split]
  congr 1
  · refine Su_congr fun j hj => ?_
    rw [Ee_app, if_pos hj, Ff_take _ _ _ hj]
  · refine Su_congr fun j hj => ?_
    rw [Ee_app, if_neg (by omega), Ff_drop]
    congr 2
    omega
theorem exs_app (es xe : List (Nat × Nat)) (f : List Int) (w : Nat) : exs (es ++ xe) f w = exs es (f.take es.length) w + exs xe (f.drop es.length) w := Su_app (fun e x => (if e.2 = w then x else 0) - if e.1 = w then x else 0) es xe f
theorem capa_app (es xe : List (Nat × Nat)) (f : List Int) (p : Nat → Bool) : capa (es ++ xe) f p = capa es (f.take es.length) p + capa xe (f.drop es.length) p := Su_app (fun e x => if p e.1 = true ∧ p e.2 = false then x else 0) es xe f
def insm (es : List (Nat × Nat)) (c : List Int) (p : Nat → Bool) : Int := Su (fun j => if p (Ee es j).1 = false ∧ p (Ee es j).2 = true then Ff c j else 0) es.length
theorem swp (V : Nat) (es : List (Nat × Nat)) (f : List Int) (hE : inR V es) (p : Nat → Bool) : Su (fun w => if p w = true then exs es f w else 0) V = insm es f p - capa es f p := by
  have h2 : Su (fun w => if p w = true then exs es f w else 0) V = Su (fun w => Su (fun j => if p w = true then ((if (Ee es j).2 = w then Ff f j else 0) - if (Ee es j).1 = w then Ff f j else 0) else 0) es.length) V := Su_congr fun w _ => by
    by_cases hp : p w = true
    · simp only [hp, if_true]; rfl
    · simp only [if_neg hp, Su_zero]
  rw [h2, Su_swap, insm, capa, ← Su_sub]
  refine Su_congr fun j hj => ?_
  have hm : Ee es j ∈ es := by simp [Ee, List.getD, hj]
  obtain ⟨r1, r2⟩ := hE _ hm
  generalize Ee es j = e at r1 r2
  have h3 : Su (fun w => if p w = true then ((if e.2 = w then Ff f j else 0) - if e.1 = w then Ff f j else 0) else 0) V = Su (fun w => (if w = e.2 then (if p e.2 = true then Ff f j else 0) else 0) - if w = e.1 then (if p e.1 = true then Ff f j else 0) else 0) V := Su_congr fun w _ => by
    by_cases a1 : w = e.2 <;> by_cases a2 : w = e.1
    · subst a1
      rw [← a2]
      by_cases h : p e.2 = true <;> simp [h]
    · subst a1
      by_cases h : p e.2 = true <;> simp [h, a2, Ne.symm a2]
    · subst a2
      by_cases h : p e.1 = true <;> simp [h, a1, Ne.symm a1]
    · simp [a1, a2, Ne.symm a1, Ne.symm a2]
  rw [h3, Su_sub, Su_one, Su_one, if_pos r1, if_pos r2]
  cases p e.1 <;> cases p e.2 <;> simp
/-- the edges of the needs -/
def ext (V : Nat) (need : Nat → Int) : Nat → List ((Nat × Nat) × Int)
  | 0 => []
  | i + 1 => ext V need i ++ if 0 < need i then [((V, i), need i)] else if need i < 0 then [((i, V + 1), -need i)] else []
def xE (V : Nat) (need : Nat → Int) (i : Nat) : List (Nat × Nat) := (ext V need i).map Prod.fst
def xC (V : Nat) (need : Nat → Int) (i : Nat) : List Int := (ext V need i).map Prod.snd
theorem ext_len (V : Nat) (need : Nat → Int) : ∀ i, (ext V need i).length ≤ i
  | 0 => by simp [ext]
  | i + 1 => by
    have := ext_len V need i
    simp only [ext, List.length_append]
    split
    · simp; omega
    · split
      · simp; omega
      · simp; omega
theorem ext_mem (V : Nat) (need : Nat → Int) : ∀ (i : Nat) (x : (Nat × Nat) × Int), x ∈ ext V need i → ∃ v, v < i ∧ ((0 < need v ∧ x = ((V, v), need v)) ∨ (need v < 0 ∧ x = ((v, V + 1), -need v)))
  | 0, x, h => by simp [ext] at h
  | i + 1, x, h => by
    simp only [ext, List.mem_append] at h
    rcases h with h | h
    · obtain ⟨v, hv, h2⟩ := ext_mem V need i x h
      exact ⟨v, by omega, h2⟩
    · refine ⟨i, by omega, ?_⟩
      split at h
      · rename_i hp; simp at h; exact .inl ⟨hp, h⟩
      · split at h
        · rename_i hp; simp at h; exact .inr ⟨hp, h⟩
        · simp at h
theorem ext_Su (V : Nat) (need : Nat → Int) (φ : Nat × Nat → Int → Int) : ∀ i, Su (fun j => φ (Ee (xE V need i) j) (Ff (xC V need i) j)) (xE V need i).length = Su (fun v => if 0 < need v then φ (V, v) (need v) else if need v < 0 then φ (v, V + 1) (-need v) else 0) i
  | 0 => by simp [xE, ext, Su]
  | i + 1 => by
    have ih := ext_Su V need φ i
    have hl : (xC V need i).length = (xE V need i).length := by simp [xE, xC]
    have key : ∀ (a : List ((Nat × Nat) × Int)), Su (fun j => φ (Ee (xE V need i ++ a.map Prod.fst) j) (Ff (xC V need i ++ a.map Prod.snd) j)) (xE V need i ++ a.map Prod.fst).length = Su (fun j => φ (Ee (xE V need i) j) (Ff (xC V need i) j)) (xE V need i).length + Su (fun j => φ (Ee (a.map Prod.fst) j) (Ff (a.map Prod.snd) j)) a.length := by
      intro a
      rw [Su_app]
      congr 1
      · refine Su_congr fun j hj => ?_
        rw [← hl, List.take_left]
      · rw [List.length_map]
        refine Su_congr fun j hj => ?_
        rw [← hl, List.drop_left]
    have e1 : ∀ a, ext V need (i + 1) = ext V need i ++ a → xE V need (i + 1) = xE V need i ++ a.map Prod.fst ∧ xC V need (i + 1) = xC V need i ++ a.map Prod.snd := by
      intro a h
      simp [xE, xC, h]
    simp only [Su]
    rw [← ih]
    by_cases h1 : 0 < need i
    · obtain ⟨q1, q2⟩ := e1 [((V, i), need i)] (by simp [ext, h1])
      rw [q1, q2, key, if_pos h1]
      simp [Su, Ee, Ff]
    · by_cases h2 : need i < 0
      · obtain ⟨q1, q2⟩ := e1 [((i, V + 1), -need i)] (by simp [ext, h1, h2])
        rw [q1, q2, key, if_neg h1, if_pos h2]
        simp [Su, Ee, Ff]
      · obtain ⟨q1, q2⟩ := e1 [] (by simp [ext, h1, h2])
        rw [q1, q2, key, if_neg h1, if_neg h2]
        simp [Su]
end k87
namespace k87
open Mp Mq
def capL (lo hi : List Int) : List Int := List.zipWith (fun l h => h - l) lo hi
def addR (lo f : List Int) : List Int := List.zipWith (fun l m => l + m) lo f
theorem Ff_zip (op : Int → Int → Int) (a b : List Int) (j : Nat) (h1 : j < a.length) (h2 : j < b.length) : Ff (List.zipWith op a b) j = op (Ff a j) (Ff b j) := by
  rw [Ff_at' h1, Ff_at' h2, Ff_at' (by simp; omega)]
  simp
where Ff_at' {f : List Int} {j : Nat} (h : j < f.length) : Ff f j = f[j] := by simp [Ff, List.getD, h]
def dem (need : Nat → Int) (V : Nat) : Int := Su (fun v => if 0 < need v then need v else 0) V
theorem need_zero (V : Nat) (es : List (Nat × Nat)) (lo : List Int) (hE : inR V es) : Su (exs es lo) V = 0 := by
  have h := swp V es lo hE fun _ => true
  simp only [if_true, insm, capa, Bool.true_eq_false, false_and, and_false, if_false, Su_zero] at h
  simpa using h
theorem inR_ext (V : Nat) (es : List (Nat × Nat)) (need : Nat → Int) (hE : inR V es) : inR (V + 2) (es ++ xE V need V) := by
  intro e he
  rcases List.mem_append.1 he with h | h
  · have := hE e h; omega
  · obtain ⟨x, hx, rfl⟩ := List.mem_map.1 h
    obtain ⟨v, hv, ⟨_, rfl⟩ | ⟨_, rfl⟩⟩ := ext_mem V need V x hx
    · simp; omega
    · simp; omega
theorem xlen (V : Nat) (need : Nat → Int) (i : Nat) : (xC V need i).length = (xE V need i).length := by simp [xC, xE]
section
variable {V : Nat} {es : List (Nat × Nat)} {lo hi f : List Int} {sc val : Int}
/-- the extended network's capacities -/
abbrev CX (V : Nat) (es : List (Nat × Nat)) (lo hi : List Int) : List Int := capL lo hi ++ xC V (exs es lo) V
abbrev EX (V : Nat) (es : List (Nat × Nat)) (lo : List Int) : List (Nat × Nat) := es ++ xE V (exs es lo) V
theorem take_CX (hlo : lo.length = es.length) (hhi : hi.length = es.length) : (CX V es lo hi).take es.length = capL lo hi ∧ (CX V es lo hi).drop es.length = xC V (exs es lo) V := by
  have : (capL lo hi).length = es.length := by simp [capL]; omega
  rw [← this]
  exact ⟨List.take_left, List.drop_left⟩
theorem CX_len (hlo : lo.length = es.length) (hhi : hi.length = es.length) : (CX V es lo hi).length = (EX V es lo).length := by
  simp [CX, EX, capL, xlen]; omega
theorem capL_at (hlo : lo.length = es.length) (hhi : hi.length = es.length) (j : Nat) (h : j < es.length) : Ff (capL lo hi) j = Ff hi j - Ff lo j := Ff_zip _ lo hi j (by omega) (by omega)
/-- the capacity of a cut between V and V + 1 -/
theorem capa_CX (hlo : lo.length = es.length) (hhi : hi.length = es.length) (p : Nat → Bool) (h1 : p V = true) (h2 : p (V + 1) = false) :
    capa (EX V es lo) (CX V es lo hi) p = (capa es hi p - capa es lo p) + Su (fun v => if p v = true then (if exs es lo v < 0 then -exs es lo v else 0) else if 0 < exs es lo v then exs es lo v else 0) V := by
  rw [capa_app, (take_CX hlo hhi).1, (take_CX hlo hhi).2]
  congr 1
  · rw [capa, capa, capa, ← Su_sub]
    refine Su_congr fun j hj => ?_
    rw [capL_at hlo hhi j hj]
    split <;> omega
  · have := ext_Su V (exs es lo) (fun e x => if p e.1 = true ∧ p e.2 = false then x else 0) V
    rw [capa, this]
    refine Su_congr fun v _ => ?_
    simp only [h1, h2, true_and, and_true]
    by_cases q : p v = true
    · simp only [q, if_true]
      by_cases a : 0 < exs es lo v
      · have : ¬ exs es lo v < 0 := by omega
        simp [a, this]
      · simp [a]
    · have q' : p v = false := by simpa using q
      simp only [q']
      by_cases a : 0 < exs es lo v
      · simp [a]
      · simp [a]
theorem capa_zero (c : List Int) (p : Nat → Bool) (hE : inR V es) (h : (∀ v, v < V → p v = false) ∨ ∀ v, v < V → p v = true) : capa es c p = 0 := by
  have : capa es c p = Su (fun _ => 0) es.length := Su_congr fun j hj => by
    have hm : Ee es j ∈ es := by simp [Ee, List.getD, hj]
    obtain ⟨r1, r2⟩ := hE _ hm
    rcases h with h | h
    · simp [h _ r1]
    · simp [h _ r2]
  rw [this, Su_zero]
variable (hE : inR V es) (hlo : lo.length = es.length) (hhi : hi.length = es.length) (S : Strm (V + 2) (EX V es lo) (CX V es lo hi) f V (V + 1) sc val)
include hE hlo hhi S
theorem val_le : val ≤ dem (exs es lo) V := by
  have h := weak (V + 2) _ _ f V (V + 1) (inR_ext V es (exs es lo) hE) (by omega) S.len S.feas S.cons (fun v => decide (v = V)) (by simp) (by simp)
  rw [S.val, capa_CX hlo hhi _ (by simp) (by simp), capa_zero hi _ hE (.inl fun v hv => by simp; omega), capa_zero lo _ hE (.inl fun v hv => by simp; omega)] at h
  have : Su (fun v => if decide (v = V) = true then (if exs es lo v < 0 then -exs es lo v else 0) else if 0 < exs es lo v then exs es lo v else 0) V = dem (exs es lo) V := Su_congr fun v hv => by
    have : ¬ v = V := by omega
    simp [this]
  omega
/-- a cut of p is saturated when the value is its capacity -/
theorem sat (p : Nat → Bool) (h1 : p V = true) (h2 : p (V + 1) = false) (hv : capa (EX V es lo) (CX V es lo hi) p ≤ val) : ∀ j, j < (EX V es lo).length → p (Ee (EX V es lo) j).1 = true → p (Ee (EX V es lo) j).2 = false → Ff f j = Ff (CX V es lo hi) j := by
  have hn := net (V + 2) _ f V (V + 1) (inR_ext V es (exs es lo) hE) (by omega) S.cons p h1 h2
  rw [S.val] at hn
  unfold capa at hv
  rw [hn] at hv
  intro j hj q1 q2
  have := Su_sat (fun j hj => ?_) hv j hj
  · simp only [EX] at q1 q2
    simp only [q1, q2, and_self, if_true, Bool.true_eq_false, false_and, if_false] at this
    omega
  · obtain ⟨f1, f2⟩ := S.feas j (by rw [S.len]; exact hj)
    cases p (Ee (EX V es lo) j).1 <;> cases p (Ee (EX V es lo) j).2 <;> simp <;> omega
theorem hof_flow (hv : val = dem (exs es lo) V) : ∀ w, w < V → exs es (addR lo f) w = 0 := by
  have hfl := S.len
  have hxl : (EX V es lo).length = es.length + (xE V (exs es lo) V).length := by simp
  have hsum : Su (fun v => if exs es lo v < 0 then -exs es lo v else 0) V = dem (exs es lo) V := by
    have h0 := need_zero V es lo hE
    have : Su (exs es lo) V = dem (exs es lo) V - Su (fun v => if exs es lo v < 0 then -exs es lo v else 0) V := by
      rw [dem, ← Su_sub]
      refine Su_congr fun v _ => ?_
      split <;> split <;> omega
    omega
  have hsat : ∀ j, j < (xE V (exs es lo) V).length → Ff (f.drop es.length) j = Ff (xC V (exs es lo) V) j := by
    intro j hj
    have c1 : capa (EX V es lo) (CX V es lo hi) (fun v => decide (v = V)) ≤ val := by
      rw [capa_CX hlo hhi _ (by simp) (by simp), capa_zero hi _ hE (.inl fun v hv => by simp; omega), capa_zero lo _ hE (.inl fun v hv => by simp; omega), hv]
      have : Su (fun v => if decide (v = V) = true then (if exs es lo v < 0 then -exs es lo v else 0) else if 0 < exs es lo v then exs es lo v else 0) V = dem (exs es lo) V := Su_congr fun v hv => by
        have : ¬ v = V := by omega
        simp [this]
      omega
    have c2 : capa (EX V es lo) (CX V es lo hi) (fun v => !decide (v = V + 1)) ≤ val := by
      rw [capa_CX hlo hhi _ (by simp) (by simp), capa_zero hi _ hE (.inr fun v hv => by simp; omega), capa_zero lo _ hE (.inr fun v hv => by simp; omega), hv, ← hsum]
      have : Su (fun v => if (!decide (v = V + 1)) = true then (if exs es lo v < 0 then -exs es lo v else 0) else if 0 < exs es lo v then exs es lo v else 0) V = Su (fun v => if exs es lo v < 0 then -exs es lo v else 0) V := Su_congr fun v hv => by
        have : ¬ v = V + 1 := by omega
        simp [this]
      omega
    have hE1 : Ee (EX V es lo) (es.length + j) = Ee (xE V (exs es lo) V) j := by
      rw [Ee_app, if_neg (by omega)]; congr 1; omega
    have hC1 : Ff (CX V es lo hi) (es.length + j) = Ff (xC V (exs es lo) V) j := by
      rw [← (take_CX hlo hhi (V := V)).2, Ff_drop]
    have hmem : Ee (xE V (exs es lo) V) j ∈ xE V (exs es lo) V := by simp [Ee, List.getD, hj]
    rw [Ff_drop, ← hC1]
    obtain ⟨x, hx, he⟩ := List.mem_map.1 hmem
    obtain ⟨v, hvV, ⟨_, rfl⟩ | ⟨_, rfl⟩⟩ := ext_mem V (exs es lo) V x hx
    · refine sat hE hlo hhi S (fun v => decide (v = V)) (by simp) (by simp) c1 (es.length + j) (by omega) ?_ ?_
      · rw [hE1, ← he]; simp
      · rw [hE1, ← he]; simp; omega
    · refine sat hE hlo hhi S (fun v => !decide (v = V + 1)) (by simp) (by simp) c2 (es.length + j) (by omega) ?_ ?_
      · rw [hE1, ← he]; simp; omega
      · rw [hE1, ← he]; simp
  intro w hw
  have hc := S.cons w (by omega) (by omega) (by omega)
  rw [exs_app] at hc
  have hx : exs (xE V (exs es lo) V) (f.drop es.length) w = exs es lo w := by
    have e1 : exs (xE V (exs es lo) V) (f.drop es.length) w = exs (xE V (exs es lo) V) (xC V (exs es lo) V) w := Su_congr fun j hj => by rw [hsat j hj]
    rw [e1]
    have := ext_Su V (exs es lo) (fun e x => (if e.2 = w then x else 0) - if e.1 = w then x else 0) V
    show Su _ _ = _
    rw [this]
    have e2 : Su (fun v => if 0 < exs es lo v then ((if v = w then exs es lo v else 0) - if V = w then exs es lo v else 0) else if exs es lo v < 0 then ((if V + 1 = w then -exs es lo v else 0) - if v = w then -exs es lo v else 0) else 0) V = Su (fun v => if v = w then exs es lo w else 0) V := Su_congr fun v hv => by
      have n1 : ¬ V = w := by omega
      have n2 : ¬ V + 1 = w := by omega
      by_cases h : v = w
      · subst h; simp only [n1, n2, if_true, if_false]; split
        · omega
        · split <;> omega
      · simp only [n1, n2, h, if_false]; split
        · omega
        · split <;> omega
    rw [e2, Su_one, if_pos hw]
  have hr : exs es (addR lo f) w = exs es lo w + exs es (f.take es.length) w := by
    unfold exs
    rw [← Su_add]
    refine Su_congr fun j hj => ?_
    have : Ff (addR lo f) j = Ff lo j + Ff (f.take es.length) j := by
      rw [Ff_take _ _ _ hj]
      exact Ff_zip _ lo f j (by omega) (by omega)
    rw [this]
    split <;> split <;> omega
  omega
theorem hof_bnd (j : Nat) (h : j < es.length) : Ff lo j ≤ Ff (addR lo f) j ∧ Ff (addR lo f) j ≤ Ff hi j := by
  have hfl := S.len
  have hxl : (EX V es lo).length = es.length + (xE V (exs es lo) V).length := by simp
  obtain ⟨f1, f2⟩ := S.feas j (by omega)
  have hr : Ff (addR lo f) j = Ff lo j + Ff f j := Ff_zip _ lo f j (by omega) (by omega)
  have hc : Ff (CX V es lo hi) j = Ff hi j - Ff lo j := by
    rw [← capL_at hlo hhi j h, ← (take_CX hlo hhi (V := V)).1, Ff_take _ _ _ h]
  omega
theorem hof_set (hv : val ≠ dem (exs es lo) V) (p : Nat → Bool) (h1 : p V = true) (h2 : p (V + 1) = false) (hc : capa (EX V es lo) (CX V es lo hi) p = val) : capa es hi p < insm es lo p := by
  have hle := val_le hE hlo hhi S
  rw [capa_CX hlo hhi p h1 h2] at hc
  have hs := swp V es lo hE p
  have : dem (exs es lo) V = Su (fun v => if p v = true then (if exs es lo v < 0 then -exs es lo v else 0) else if 0 < exs es lo v then exs es lo v else 0) V + Su (fun w => if p w = true then exs es lo w else 0) V := by
    rw [dem, ← Su_add]
    refine Su_congr fun v _ => ?_
    cases p v <;> simp <;> split <;> (try split) <;> omega
  omega
end
/-- the easy half -/
theorem hof_easy {V : Nat} {es : List (Nat × Nat)} {lo hi row : List Int} (hE : inR V es) (hb : ∀ j, j < es.length → Ff lo j ≤ Ff row j ∧ Ff row j ≤ Ff hi j) (h0 : ∀ w, w < V → exs es row w = 0) (p : Nat → Bool) : ¬ capa es hi p < insm es lo p := by
  have hs := swp V es row hE p
  have hz : Su (fun w => if p w = true then exs es row w else 0) V = 0 := by
    have : Su (fun w => if p w = true then exs es row w else 0) V = Su (fun _ => 0) V := Su_congr fun w hw => by
      rw [h0 w hw]; split <;> rfl
    rw [this, Su_zero]
  have h1 : insm es lo p ≤ insm es row p := Su_le fun j hj => by
    obtain ⟨a, b⟩ := hb j hj
    split <;> omega
  have h2 : capa es row p ≤ capa es hi p := Su_le fun j hj => by
    obtain ⟨a, b⟩ := hb j hj
    split <;> omega
  omega
end k87
namespace k87
open Mp Mq
abbrev g : D := .gone
theorem Ff_at {f : List Int} {j : Nat} (h : j < f.length) : Ff f j = f[j] := by simp [Ff, List.getD, h]
section
variable {V : Nat} {es : List (Nat × Nat)} {lo hi f : List Int}
theorem cb_comp (g : D) (d1 d2 : D) (x : D) (h1 : d1 = .lst true (I lo) ∨ d1 = .lst false (I lo)) (h2 : d2 = .tup (I hi) ∨ d2 = .lst true (I hi) ∨ d2 = .lst false (I hi)) (hl : hi.length = lo.length) (hb : ∀ j, j < lo.length → Ff lo j ≤ Ff hi j) : compL (turnC c_check_bounds (.var 3) [3] cx_check_bounds_1 ex_check_bounds_2) (rngL 0 lo.length) [g, d1, d2, .gone] none = .ok ([], none) := by
  rw [rng_enc]
  have := comp_some (turn := turnC c_check_bounds (.var 3) [3] cx_check_bounds_1 ex_check_bounds_2) (fun j : Nat => D.int j) (fun _ => false) (fun j : Nat => D.int j) (xs := List.range lo.length) (ρ := [g, d1, d2, .gone]) (by
    intro j hj
    simp only [List.mem_range] at hj
    have h3 := hb j hj
    have h4 : j < hi.length := by omega
    rw [Ff_at hj, Ff_at h4] at h3
    have h5 : ¬ hi[j] < lo[j] := by omega
    rw [turnC_var]
    rcases h1 with rfl | rfl <;> rcases h2 with rfl | rfl | rfl <;> simp [cx_check_bounds_1, ex_check_bounds_2, hj, h4, h5])
  rw [List.filter_eq_nil_iff.2 (by simp)] at this
  exact this
theorem cb_ok (d1 d2 : D) (h1 : d1 = .lst true (I lo) ∨ d1 = .lst false (I lo)) (h2 : d2 = .tup (I hi) ∨ d2 = .lst true (I hi) ∨ d2 = .lst false (I hi)) (hl : es.length ≤ 1000) (hlo : lo.length = es.length) (hhi : hi.length = es.length) (hb : ∀ j, j < es.length → Ff lo j ≤ Ff hi j) : m_check_bounds [G V es, d1, d2] = .ok .non [G V es, d1, d2] := by
  have hc := cb_comp (G V es) d1 d2 .gone h1 h2 (by omega) (by rw [hlo]; exact hb)
  have hr : okR (es.length : Int) = true := okR_nat _ (by omega)
  rw [hlo] at hc
  rcases h1 with rfl | rfl <;> rcases h2 with rfl | rfl | rfl <;> simp [m_check_bounds, b_check_bounds, dF, small64_eq, hlo, hhi, hc, hr]
theorem cb_no (d1 d2 : D) (h1 : d1 = .lst true (I lo) ∨ d1 = .lst false (I lo)) (h2 : d2 = .tup (I hi) ∨ d2 = .lst true (I hi) ∨ d2 = .lst false (I hi)) (hlo : lo.length ≠ es.length) : m_check_bounds [G V es, d1, d2] = .exc 2 (.str "bounds") := by
  rcases h1 with rfl | rfl <;> rcases h2 with rfl | rfl | rfl <;> simp [m_check_bounds, b_check_bounds, dF, small64_eq, hlo]
theorem cb_no2 : m_check_bounds [G 1 [(0, 0)], .lst true (I [1]), .lst true (I [0])] = .exc 2 (.str "bounds") := by
  have hr : okR (1 : Int) = true := by decide
  simp [m_check_bounds, b_check_bounds, dF, small64_eq, hr, rngL, compL, turnC, cx_check_bounds_1, ex_check_bounds_2, place, R.calm]
theorem exc_okT (hE : inR V es) (hV : V ≤ 100) (hf : f.length = es.length) : m_excess [G V es, .lst true (I f)] = .ok (.lst true (I (Xq V es f es.length))) [G V es, .lst false (I f)] := by
  have h := excess_ok (V := V) (es := es) (f := f) hE hV hf
  rw [← h]
  have hm := bd_mul_l true [D.int 0] V (by simp) (by omega) (by simp; omega)
  simp [m_excess, b_excess, dF, small64_eq, hm]
theorem zipI (a b : List Int) : zipL (I a) (I b) = (a.zip b).map fun p => D.tup [.int p.1, .int p.2] := by
  induction a generalizing b with
  | nil => simp [zipL]
  | cons x a ih =>
    cases b with
    | nil => simp [zipL]
    | cons y b =>
      have := ih b
      simp only [I] at this
      simp [zipL, this]
theorem zip_I (op : Int → Int → Int) : ∀ (a b : List Int), ((a.zip b).map fun p => D.int (op p.1 p.2)) = I (List.zipWith op a b)
  | [], _ => by simp
  | _ :: _, [] => by simp
  | x :: a, y :: b => by
    have := zip_I op a b
    simp only [I] at this
    simp [this]
theorem capL_I (a b : List Int) : ((a.zip b).map fun p => D.int (p.2 - p.1)) = I (capL a b) := zip_I (fun l h => h - l) a b
theorem addR_I (a b : List Int) : ((a.zip b).map fun p => D.int (p.1 + p.2)) = I (addR a b) := zip_I (fun l m => l + m) a b
theorem c_loop (x1 x2 : D) (hV : V ≤ 100) (hl : es.length ≤ 1000) (ed : List (Nat × Nat)) (cp : List Int) (he : ed.length ≤ 1000) (hcp : cp.length ≤ 1000) (nd : List Int) (hn : nd.length = V) : ∃ y7, (y7 = g ∨ ∃ i : Int, y7 = .int i) ∧ loopF (turnF c_circulation (.var 7) lx_circulation_6) (rngL 0 V) [G V es, x1, x2, .lst true (I nd), .int V, .lst true (Ed ed), .lst true (I cp), .gone, .gone, .gone, .gone, .gone, .gone, .gone, .gone] = .nx [G V es, x1, x2, .lst true (I nd), .int V, .lst true (Ed (ed ++ xE V (Ff nd) V)), .lst true (I (cp ++ xC V (Ff nd) V)), y7, .gone, .gone, .gone, .gone, .gone, .gone, .gone] := by
  obtain ⟨ρ, e, y7, h7, rfl⟩ := loop_rng (turn := turnF c_circulation (.var 7) lx_circulation_6) (fun i ρ => ∃ y7, (y7 = g ∨ ∃ i : Int, y7 = .int i) ∧ ρ = [G V es, x1, x2, .lst true (I nd), .int V, .lst true (Ed (ed ++ xE V (Ff nd) i)), .lst true (I (cp ++ xC V (Ff nd) i)), y7, .gone, .gone, .gone, .gone, .gone, .gone, .gone]) V (ρ := [G V es, x1, x2, .lst true (I nd), .int V, .lst true (Ed ed), .lst true (I cp), .gone, .gone, .gone, .gone, .gone, .gone, .gone, .gone]) ⟨.gone, .inl rfl, by simp [xE, xC, ext]⟩ (by
    rintro i _ hi ⟨y7, _, rfl⟩
    refine ⟨_, ?_, .int i, .inr ⟨_, rfl⟩, rfl⟩
    rw [turnF_var]
    have hel := ext_len V (Ff nd) i
    have hxe : (xE V (Ff nd) i).length ≤ i := by simpa [xE] using hel
    have hxc : (xC V (Ff nd) i).length ≤ i := by simpa [xC] using hel
    have hni : i < nd.length := by omega
    have hnf := Ff_at hni
    have k1 : ed.length + (xE V (Ff nd) i).length < 16777216 := by omega
    have k2 : cp.length + (xC V (Ff nd) i).length < 16777216 := by omega
    by_cases h1 : 0 < nd[i]
    · have h2 : ¬ nd[i] < 0 := by omega
      have e1 : xE V (Ff nd) (i + 1) = xE V (Ff nd) i ++ [(V, i)] := by simp [xE, ext, hnf, h1]
      have e2 : xC V (Ff nd) (i + 1) = xC V (Ff nd) i ++ [nd[i]] := by simp [xC, ext, hnf, h1]
      rw [e1, e2]
      simp [lx_circulation_6, hni, h1, h2, k1, k2]
    · by_cases h2 : nd[i] < 0
      · have e1 : xE V (Ff nd) (i + 1) = xE V (Ff nd) i ++ [(i, V + 1)] := by simp [xE, ext, hnf, h1, h2]
        have e2 : xC V (Ff nd) (i + 1) = xC V (Ff nd) i ++ [-nd[i]] := by simp [xC, ext, hnf, h1, h2]
        rw [e1, e2]
        simp [lx_circulation_6, hni, h1, h2, k1, k2, negD]
      · have e1 : xE V (Ff nd) (i + 1) = xE V (Ff nd) i := by simp [xE, ext, hnf, h1, h2]
        have e2 : xC V (Ff nd) (i + 1) = xC V (Ff nd) i := by simp [xC, ext, hnf, h1, h2]
        rw [e1, e2]
        simp [lx_circulation_6, hni, h1, h2])
  exact ⟨y7, h7, e⟩
theorem xE_congr (V : Nat) (n m : Nat → Int) : ∀ i, (∀ v, v < i → n v = m v) → ext V n i = ext V m i
  | 0, _ => rfl
  | i + 1, h => by
    simp only [ext, xE_congr V n m i fun v hv => h v (by omega), h i (by omega)]
theorem Xq_Ff (v : Nat) (hv : v < V) : Ff (Xq V es lo es.length) v = exs es lo v := by
  rw [Ff_at (by simpa using hv)]
  simp [Xq, exq_all]
theorem pos_sum (nd : List Int) : (nd.filter fun x => decide (0 < x)).sum = dem (Ff nd) nd.length := by
  have key : ∀ n, n ≤ nd.length → ((nd.take n).filter fun x => decide (0 < x)).sum = dem (Ff nd) n := by
    intro n
    induction n with
    | zero => intro _; simp [dem, Su]
    | succ n ih =>
      intro hn
      have hn2 : n < nd.length := by omega
      rw [List.take_succ_eq_append_getElem hn2, List.filter_append, List.sum_append, ih (by omega)]
      show _ = Su _ (n + 1)
      simp only [Su]
      rw [Ff_at hn2]
      by_cases h : 0 < nd[n] <;> simp [h, dem]
  have := key nd.length (Nat.le_refl _)
  rwa [List.take_length] at this
theorem dem_congr (n m : Nat → Int) (k : Nat) (h : ∀ v, v < k → n v = m v) : dem n k = dem m k := Su_congr fun v hv => by rw [h v hv]
theorem circ_run (nd c0 cx row : List Int) (ex : List (Nat × Nat)) (val D0 : Int) (cut cutV : List Nat) (ps : List Int) (hps : ps.sum = D0) (hV : V ≤ 40) (hrow : row.length ≤ 1000) (hcv : cutV.length ≤ 1000) (hpl : ps.length ≤ 1000)
    (hc0 : c0.length ≤ 1000)
    (e9 : m_check_bounds [G V es, .lst true (I lo), .tup (I hi)] = .ok .non [G V es, .lst true (I lo), .tup (I hi)])
    (e8 : m_excess [G V es, .lst true (I lo)] = .ok (.lst true (I nd)) [G V es, .lst false (I lo)])
    (e5 : compL (turnC c_circulation (.tup (.cons (.var 11) (.cons (.var 12) .nil))) [11, 12] .nil ex_circulation_7) (zipL (I lo) (I hi)) [G V es, .lst false (I lo), .tup (I hi), .lst true (I nd), .int V, .lst true (Ed es), g, g, g, g, g, g, g, g, g] none = .ok (I c0, none))
    (y7 : D)
    (e4 : loopF (turnF c_circulation (.var 7) lx_circulation_6) (rngL 0 V) [G V es, .lst false (I lo), .tup (I hi), .lst true (I nd), .int V, .lst true (Ed es), .lst true (I c0), g, g, g, g, g, g, g, g] = .nx [G V es, .lst false (I lo), .tup (I hi), .lst true (I nd), .int V, .lst true (Ed ex), .lst true (I cx), y7, g, g, g, g, g, g, g])
    (hin : m_Graph___init__ [.ins true 0 [] [], .int (V + 2 : Nat), .lst true (Ed ex)] = .ok .non [.ins true 0 [0, 1] [.int (V + 2 : Nat), .tup (Ed ex)], .int (V + 2 : Nat), .lst true (Ed ex)])
    (e3 : m_greatest_stream [G (V + 2) ex, .lst true (I cx), .int V, .int (V + 1 : Nat)] = .ok (.tup [.int val, .lst true (I f), .tup (N cut)]) [G (V + 2) ex, .lst true (I cx), .int V, .int (V + 1 : Nat)])
    (e2 : ∀ x7 x10 x11 x12, compL (turnC c_circulation (.var 13) [13] cx_circulation_3 ex_circulation_4) (I nd) [G V es, .lst false (I lo), .tup (I hi), g, .int V, .lst true (Ed ex), .lst true (I cx), x7, .int val, .lst true (I f), x10, x11, x12, g, g] none = .ok (I ps, none))
    (e1 : ∀ x3 x7 x11 x12, compL (turnC c_circulation (.tup (.cons (.var 11) (.cons (.var 14) .nil))) [11, 14] .nil ex_circulation_5) (zipL (I lo) (I f)) [G V es, .lst false (I lo), .tup (I hi), x3, .int V, .lst true (Ed ex), .lst true (I cx), x7, .int val, .lst false (I f), .tup (N cut), g, x12, x11, g] none = .ok (I row, none))
    (e0 : ∀ x3 x8 x9 x11 x12, compL (turnC c_circulation (.var 7) [7] cx_circulation_1 ex_circulation_2) (N cut) [G V es, .lst false (I lo), .tup (I hi), x3, .int V, .lst true (Ed ex), .lst true (I cx), g, x8, x9, g, x11, x12, g, g] none = .ok (N cutV, none))
    (h7 : y7 = g ∨ ∃ i : Int, y7 = .int i) :
    ∃ outs, m_circulation [G V es, .lst true (I lo), .tup (I hi)] = .ok (if val = D0 then .tup [.str "flow", .lst true (I row)] else .tup [.str "set", .tup (N cutV)]) outs := by
  have hrV : okR (V : Int) = true := okR_nat _ (by omega)
  have q9 : dS c_circulation st_circulation_9 [G V es, .lst true (I lo), .tup (I hi), g, g, g, g, g, g, g, g, g, g, g, g] = .nx [G V es, .lst true (I lo), .tup (I hi), g, g, g, g, g, g, g, g, g, g, g, g] := by
    simp [st_circulation_9, e9]
  have q8 : dS c_circulation st_circulation_8 [G V es, .lst true (I lo), .tup (I hi), g, g, g, g, g, g, g, g, g, g, g, g] = .nx [G V es, .lst false (I lo), .tup (I hi), .lst true (I nd), g, g, g, g, g, g, g, g, g, g, g] := by
    simp [st_circulation_8, e8]
  have q7 : dS c_circulation st_circulation_7 [G V es, .lst false (I lo), .tup (I hi), .lst true (I nd), g, g, g, g, g, g, g, g, g, g, g] = .nx [G V es, .lst false (I lo), .tup (I hi), .lst true (I nd), .int V, g, g, g, g, g, g, g, g, g, g] := by
    simp [st_circulation_7]
  have q6 : dS c_circulation st_circulation_6 [G V es, .lst false (I lo), .tup (I hi), .lst true (I nd), .int V, g, g, g, g, g, g, g, g, g, g] = .nx [G V es, .lst false (I lo), .tup (I hi), .lst true (I nd), .int V, .lst true (Ed es), g, g, g, g, g, g, g, g, g] := by
    simp [st_circulation_6]
  have hcl2 : c0.length ≤ 16777216 := by omega
  have q5 : dS c_circulation st_circulation_5 [G V es, .lst false (I lo), .tup (I hi), .lst true (I nd), .int V, .lst true (Ed es), g, g, g, g, g, g, g, g, g] = .nx [G V es, .lst false (I lo), .tup (I hi), .lst true (I nd), .int V, .lst true (Ed es), .lst true (I c0), g, g, g, g, g, g, g, g] := by
    simp [st_circulation_5, e5, hcl2]
  have q4 : dS c_circulation st_circulation_4 [G V es, .lst false (I lo), .tup (I hi), .lst true (I nd), .int V, .lst true (Ed es), .lst true (I c0), g, g, g, g, g, g, g, g] = .nx [G V es, .lst false (I lo), .tup (I hi), .lst true (I nd), .int V, .lst true (Ed ex), .lst true (I cx), y7, g, g, g, g, g, g, g] := by
    simp [st_circulation_4, hrV, e4]
  rw [show ((V + 2 : Nat) : Int) = (V : Int) + 2 by simp] at hin
  rw [show ((V + 1 : Nat) : Int) = (V : Int) + 1 by simp] at e3
  have e3' : m_greatest_stream [.ins false 0 [0, 1] [.int ((V : Int) + 2), .tup (Ed ex)], .lst true (I cx), .int V, .int ((V : Int) + 1)] = .ok (.tup [.int val, .lst true (I f), .tup (N cut)]) [.ins false 0 [0, 1] [.int ((V : Int) + 2), .tup (Ed ex)], .lst true (I cx), .int V, .int ((V : Int) + 1)] := by
    rw [show (V : Int) + 2 = ((V + 2 : Nat) : Int) by simp]
    exact e3
  have q3 : dS c_circulation st_circulation_3 [G V es, .lst false (I lo), .tup (I hi), .lst true (I nd), .int V, .lst true (Ed ex), .lst true (I cx), y7, g, g, g, g, g, g, g] = .nx [G V es, .lst false (I lo), .tup (I hi), .lst true (I nd), .int V, .lst true (Ed ex), .lst true (I cx), y7, .int val, .lst true (I f), .tup (N cut), g, g, g, g] := by
    simp [st_circulation_3, hin, e3']
  have hps2 : ps.length ≤ 16777216 := by omega
  have hrow2 : row.length ≤ 16777216 := by omega
  have hcv2 : cutV.length ≤ 16777216 := by omega
  have hb : b_circulation.body = .cons st_circulation_9 (.cons st_circulation_8 (.cons st_circulation_7 (.cons st_circulation_6 (.cons st_circulation_5 (.cons st_circulation_4 (.cons st_circulation_3 (.cons st_circulation_2 (.cons st_circulation_1 .nil)))))))) := rfl
  have fin : ∀ d ρ, dSs c_circulation (.cons st_circulation_2 (.cons st_circulation_1 .nil)) [G V es, .lst false (I lo), .tup (I hi), .lst true (I nd), .int V, .lst true (Ed ex), .lst true (I cx), y7, .int val, .lst true (I f), .tup (N cut), g, g, g, g] = .ret d ρ → ∃ outs, m_circulation [G V es, .lst true (I lo), .tup (I hi)] = .ok d outs := by
    intro d ρ h
    refine ⟨_, dF_ret (ρ := ρ) rfl ?_⟩
    rw [hb]
    show dSs c_circulation _ [G V es, .lst true (I lo), .tup (I hi), g, g, g, g, g, g, g, g, g, g, g, g] = _
    rw [dSs_cons, q9, seq_nx, dSs_cons, q8, seq_nx, dSs_cons, q7, seq_nx, dSs_cons, q6, seq_nx, dSs_cons, q5, seq_nx, dSs_cons, q4, seq_nx, dSs_cons, q3, seq_nx]
    exact h
  by_cases hv : val = D0
  · rw [if_pos hv]
    subst hv
    rcases h7 with rfl | ⟨i, rfl⟩
    · exact fin _ _ (by simp [st_circulation_2, e2, e1, hps, hps2, hrow2]; rfl)
    · exact fin _ _ (by simp [st_circulation_2, e2, e1, hps, hps2, hrow2]; rfl)
  · rw [if_neg hv]
    rcases h7 with rfl | ⟨i, rfl⟩
    · exact fin _ _ (by simp [st_circulation_2, st_circulation_1, e2, e0, hps, hv, hps2, hcv2]; rfl)
    · exact fin _ _ (by simp [st_circulation_2, st_circulation_1, e2, e0, hps, hv, hps2, hcv2]; rfl)
/-- what circulation answers -/
def circD (V : Nat) (es : List (Nat × Nat)) (lo f : List Int) (val : Int) (cut : List Nat) : D :=
  if val = dem (exs es lo) V then .tup [.str "flow", .lst true (I (addR lo f))] else .tup [.str "set", .tup (N (cut.filter fun v => decide (v < V)))]
theorem circ_ok (hE : inR V es) (hV : V ≤ 40) (hl : es.length ≤ 500) (hlo : lo.length = es.length) (hhi : hi.length = es.length) (hb : ∀ j, j < es.length → Ff lo j ≤ Ff hi j) {sc : Int} (hsc : 0 < sc) (hcd : ∀ j, sc ∣ Ff (CX V es lo hi) j) (hbd : Su (Ff (CX V es lo hi)) (EX V es lo).length < sc * 100000) :
    ∃ f val cut outs, m_circulation [G V es, .lst true (I lo), .tup (I hi)] = .ok (circD V es lo f val cut) outs ∧ Great (V + 2) (EX V es lo) (CX V es lo hi) V (V + 1) sc f val cut := by
  have e9 := cb_ok (V := V) (.lst true (I lo)) (.tup (I hi)) (.inl rfl) (.inl rfl) (by omega) hlo hhi hb
  have e8 := exc_okT (f := lo) hE (by omega) hlo
  have e5 := comp_one (turn := turnC c_circulation (.tup (.cons (.var 11) (.cons (.var 12) .nil))) [11, 12] .nil ex_circulation_7) (fun p : Int × Int => D.tup [.int p.1, .int p.2]) (fun p => .int (p.2 - p.1)) (xs := lo.zip hi) (ρ := [G V es, .lst false (I lo), .tup (I hi), .lst true (I (Xq V es lo es.length)), .int V, .lst true (Ed es), g, g, g, g, g, g, g, g, g]) (by
    rintro ⟨a, b⟩ _
    rw [turnC_two]
    simp [ex_circulation_7])
  rw [capL_I, ← zipI] at e5
  have hcl : (capL lo hi).length = es.length := by simp [capL]; omega
  obtain ⟨y7, h7, e4⟩ := c_loop (V := V) (es := es) (.lst false (I lo)) (.tup (I hi)) (by omega) (by omega) es (capL lo hi) (by omega) (by omega) (Xq V es lo es.length) (by simp)
  have hx1 : ext V (Ff (Xq V es lo es.length)) V = ext V (exs es lo) V := xE_congr V _ _ V fun v hv => Xq_Ff v hv
  have hx2 : xE V (Ff (Xq V es lo es.length)) V = xE V (exs es lo) V := by simp only [xE, hx1]
  have hx3 : xC V (Ff (Xq V es lo es.length)) V = xC V (exs es lo) V := by simp only [xC, hx1]
  rw [hx2, hx3] at e4
  have hexl := ext_len V (exs es lo) V
  have hEl : (EX V es lo).length ≤ 1000 := by
    have : (xE V (exs es lo) V).length ≤ V := by simpa [xE] using hexl
    simp; omega
  have hir := inR_ext V es (exs es lo) hE
  have hin := init_ok (V + 2) (.lst true (Ed (EX V es lo))) (EX V es lo) (.inl ⟨_, rfl⟩) hir hEl
  have hcp : ∀ x ∈ CX V es lo hi, 0 ≤ x := by
    intro x hx
    rcases List.mem_append.1 hx with h | h
    · obtain ⟨j, hj, rfl⟩ := List.getElem_of_mem h
      rw [← Ff_at hj, capL_at hlo hhi j (by omega)]
      have := hb j (by omega)
      omega
    · obtain ⟨y, hy, rfl⟩ := List.mem_map.1 h
      obtain ⟨v, hv, ⟨hp, rfl⟩ | ⟨hp, rfl⟩⟩ := ext_mem V (exs es lo) V y hy
      · simp; omega
      · simp; omega
  obtain ⟨f, val, cut, e3, Gr⟩ := great_ok (V := V + 2) true hir hEl (by omega) (CX_len hlo hhi) hcp (st := V) (en_ := V + 1) (by omega) (by omega) (by omega) hsc hcd hbd
  have hcutl : cut.length ≤ V + 2 := nodup_lt (V + 2) cut (Gr.asc.imp fun h => by omega) Gr.lt
  have hfl := Gr.strm.len
  have hCl := CX_len (V := V) hlo hhi
  refine ⟨f, val, cut, ?_⟩
  have hsum : ((Xq V es lo es.length).filter fun x => decide (0 < x)).sum = dem (exs es lo) V := by
    rw [pos_sum]
    have : (Xq V es lo es.length).length = V := by simp
    rw [this]
    exact dem_congr _ _ V fun v hv => Xq_Ff v hv
  have e2 : ∀ x7 x10 x11 x12, compL (turnC c_circulation (.var 13) [13] cx_circulation_3 ex_circulation_4) (I (Xq V es lo es.length)) [G V es, .lst false (I lo), .tup (I hi), g, .int V, .lst true (Ed (EX V es lo)), .lst true (I (CX V es lo hi)), x7, .int val, .lst true (I f), x10, x11, x12, g, g] none = .ok (I ((Xq V es lo es.length).filter fun x => decide (0 < x)), none) := by
    intro x7 x10 x11 x12
    refine comp_some D.int (fun x => decide (0 < x)) D.int ?_
    intro x _
    rw [turnC_var]
    by_cases h : 0 < x <;> simp [cx_circulation_3, ex_circulation_4, h]
  have e1 : ∀ x3 x7 x11 x12, compL (turnC c_circulation (.tup (.cons (.var 11) (.cons (.var 14) .nil))) [11, 14] .nil ex_circulation_5) ((lo.zip f).map fun p => D.tup [.int p.1, .int p.2]) [G V es, .lst false (I lo), .tup (I hi), x3, .int V, .lst true (Ed (EX V es lo)), .lst true (I (CX V es lo hi)), x7, .int val, .lst false (I f), .tup (N cut), g, x12, x11, g] none = .ok (I (addR lo f), none) := by
    intro x3 x7 x11 x12
    rw [← addR_I]
    refine comp_one (fun p : Int × Int => D.tup [.int p.1, .int p.2]) (fun p => .int (p.1 + p.2)) ?_
    rintro ⟨a, b⟩ _
    rw [turnC_two]
    simp [ex_circulation_5]
  have e0 : ∀ x3 x8 x9 x11 x12, compL (turnC c_circulation (.var 7) [7] cx_circulation_1 ex_circulation_2) (N cut) [G V es, .lst false (I lo), .tup (I hi), x3, .int V, .lst true (Ed (EX V es lo)), .lst true (I (CX V es lo hi)), g, x8, x9, g, x11, x12, g, g] none = .ok (N (cut.filter fun v => decide (v < V)), none) := by
    intro x3 x8 x9 x11 x12
    refine comp_some (fun n : Nat => D.int n) (fun v => decide (v < V)) (fun n : Nat => D.int n) ?_
    intro v _
    rw [turnC_var]
    by_cases h : v < V <;> simp [cx_circulation_1, ex_circulation_2, h]
  rw [← zipI] at e1
  have hal : (addR lo f).length ≤ 1000 := by simp [addR]; omega
  have hcv : (cut.filter fun v => decide (v < V)).length ≤ 1000 := by
    have := List.length_filter_le (fun v => decide (v < V)) cut
    omega
  have hpl : ((Xq V es lo es.length).filter fun x => decide (0 < x)).length ≤ 1000 := by
    have := List.length_filter_le (fun x => decide (0 < x)) (Xq V es lo es.length)
    simp at this
    omega
  obtain ⟨outs, hq⟩ := circ_run (Xq V es lo es.length) (capL lo hi) (CX V es lo hi) (addR lo f) (EX V es lo) val _ cut _ _ hsum hV hal hcv hpl (by omega) e9 e8 e5 y7 e4 hin e3 e2 e1 e0 h7
  exact ⟨outs, hq, Gr⟩
end
end k87
namespace k87
open Mp Mq
@[simp] theorem str_sf : (PySem.Str.ofString "set" == PySem.Str.ofString "flow") = false := by decide +kernel
@[simp] theorem str_wf : (PySem.Str.ofString "way" == PySem.Str.ofString "flow") = false := by decide +kernel
@[simp] theorem str_ws : (PySem.Str.ofString "way" == PySem.Str.ofString "set") = false := by decide +kernel
def bd (lo hi row : List Int) (n : Nat) : List Nat := (List.range n).filter fun j => !(decide (Ff lo j ≤ Ff row j) && decide (Ff row j ≤ Ff hi j))
theorem bd_len (lo hi row n) : (bd lo hi row n).length ≤ n := by
  have := List.length_filter_le (fun j => !(decide (Ff lo j ≤ Ff row j) && decide (Ff row j ≤ Ff hi j))) (List.range n)
  simpa [bd] using this
def nz (V : Nat) (es : List (Nat × Nat)) (row : List Int) : List Int := (Xq V es row es.length).filter fun x => !decide (x = 0)
theorem nz_len (V es row) : (nz V es row).length ≤ V := by
  have := List.length_filter_le (fun x => !decide (x = 0)) (Xq V es row es.length)
  simp at this
  exact this
def flowB (V : Nat) (es : List (Nat × Nat)) (lo hi row : List Int) : Bool := decide (row.length = es.length) && (decide (bd lo hi row es.length = []) && decide (nz V es row = []))
def setR (es : List (Nat × Nat)) (lo hi : List Int) (side : List Nat) : Bool := decide (capa es hi (fun v => decide (v ∈ side)) < insm es lo fun v => decide (v ∈ side))
section
variable {V : Nat} {es : List (Nat × Nat)} {lo hi row : List Int}
theorem nz_nil : nz V es row = [] ↔ ∀ w, w < V → exs es row w = 0 := by
  unfold nz
  rw [List.filter_eq_nil_iff]
  constructor
  · intro h w hw
    have := h (exs es row w) (List.mem_map.2 ⟨w, by simpa using hw, exq_all es row w⟩)
    simpa using this
  · intro h x hx
    obtain ⟨w, hw, rfl⟩ := List.mem_map.1 hx
    rw [exq_all, h w (by simpa using hw)]
    simp
theorem bd_nil (n : Nat) : bd lo hi row n = [] ↔ ∀ j, j < n → Ff lo j ≤ Ff row j ∧ Ff row j ≤ Ff hi j := by
  unfold bd
  rw [List.filter_eq_nil_iff]
  simp
def insq (es : List (Nat × Nat)) (c : List Int) (side : List Nat) (i : Nat) : Int := Su (fun j => if decide ((Ee es j).1 ∈ side) = false ∧ decide ((Ee es j).2 ∈ side) = true then Ff c j else 0) i
theorem insq_all (es c side) : insq es c side es.length = insm es c fun v => decide (v ∈ side) := rfl
theorem insq_succ (es c side i) : insq es c side (i + 1) = insq es c side i + if decide ((Ee es i).1 ∈ side) = false ∧ decide ((Ee es i).2 ∈ side) = true then Ff c i else 0 := rfl
theorem insum_ok (o : Bool) (side : List Nat) (hc : lo.length = es.length) : m_in_sum [G V es, .lst o (I lo), .tup (N side)] = .ok (.int (insm es lo fun v => decide (v ∈ side))) [G V es, .lst false (I lo), .tup (N side)] := by
  obtain ⟨ρ, e, x3, x4, x5, rfl⟩ := loop_pre (turn := turnF c_in_sum (.tup (.cons (.tup (.cons (.var 5) (.cons (.var 6) .nil))) (.cons (.var 4) .nil))) lx_in_sum_1) (fun j => D.tup [en (Ee es j), .int (Ff lo j)]) (fun i ρ => ∃ x3 x4 x5, ρ = [G V es, .lst false (I lo), .tup (N side), .int (insq es lo side i), x3, x4, x5]) (List.range es.length) (ρ := [G V es, .lst false (I lo), .tup (N side), .int 0, .gone, .gone, .gone]) ⟨.gone, .gone, .gone, rfl⟩ (by
    rintro i hi _ ⟨x3, x4, x5, rfl⟩
    obtain ⟨a, b, hab⟩ : ∃ a b, Ee es i = (a, b) := ⟨_, _, rfl⟩
    refine ⟨_, ?_, .int (Ff lo i), .int a, .int b, rfl⟩
    rw [List.getElem_range, turnF_nest]
    simp only [insq_succ, hab]
    have ma := memD_N a side
    have mb := memD_N b side
    simp only [N] at ma mb
    by_cases h1 : a ∈ side <;> by_cases h2 : b ∈ side <;> simp [lx_in_sum_1, h1, h2, ma, mb])
  rw [List.length_range, ← zip_enc es lo hc] at e
  rw [insq_all] at e
  cases o <;> simp [m_in_sum, b_in_sum, dF, small64_eq, e]
theorem set_ok (o o1 o2 : Bool) (side : List Nat) (hl : es.length ≤ 1000) (hlo : lo.length = es.length) (hhi : hi.length = es.length) : m_l_law_set_right [.lst o (Ed es), .lst o1 (I lo), .lst o2 (I hi), .tup (N side)] = .ok (.bl (setR es lo hi side)) [.lst o (Ed es), .lst o1 (I lo), .lst o2 (I hi), .tup (N side)] := by
  obtain ⟨ρ, e, x6, x7, x8, rfl⟩ := loop_rng (turn := turnF c_l_law_set_right (.var 6) lx_l_law_set_right_1) (fun i ρ => ∃ x6 x7 x8, ρ = [.lst o (Ed es), .lst o1 (I lo), .lst o2 (I hi), .tup (N side), .int (insq es lo side i), .int (caps es hi side i), x6, x7, x8]) es.length (ρ := [.lst o (Ed es), .lst o1 (I lo), .lst o2 (I hi), .tup (N side), .int 0, .int 0, .gone, .gone, .gone]) ⟨.gone, .gone, .gone, rfl⟩ (by
    rintro i _ hi_ ⟨x6, x7, x8, rfl⟩
    obtain ⟨a, b, hab⟩ : ∃ a b, es[i] = (a, b) := ⟨_, _, rfl⟩
    have hab2 : Ee es i = (a, b) := by simp [Ee, List.getD, hi_, hab]
    have h1 : i < lo.length := by omega
    have h2 : i < hi.length := by omega
    refine ⟨_, ?_, .int i, .int a, .int b, rfl⟩
    rw [turnF_var]
    simp only [insq_succ, caps_succ, hab2, Ff_at h1, Ff_at h2]
    have ma := memD_N a side
    have mb := memD_N b side
    simp only [N] at ma mb
    by_cases q1 : a ∈ side <;> by_cases q2 : b ∈ side <;> simp [lx_l_law_set_right_1, hi_, hab, h1, h2, q1, q2, ma, mb])
  have hr : okR (es.length : Int) = true := okR_nat _ (by omega)
  rw [insq_all, caps_all] at e
  simp [m_l_law_set_right, b_l_law_set_right, dF, small64_eq, hr, e, setR]
theorem bal_loop (hE : inR V es) (hV : V ≤ 100) (hf : row.length = es.length) : ∃ y7 y8 y9, loopF (turnF c_l_law_balanced (.tup (.cons (.tup (.cons (.var 5) (.cons (.var 6) .nil))) (.cons (.var 4) .nil))) lx_l_law_balanced_1) (zipL (Ed es) (I row)) [.int V, .lst false (Ed es), .lst false (I row), .lst true (List.replicate V (.int 0)), .gone, .gone, .gone] = .nx [.int V, .lst false (Ed es), .lst false (I row), .lst true (I (Xq V es row es.length)), y7, y8, y9] := by
  obtain ⟨ρ, e, y7, y8, y9, rfl⟩ := loop_pre (turn := turnF c_l_law_balanced (.tup (.cons (.tup (.cons (.var 5) (.cons (.var 6) .nil))) (.cons (.var 4) .nil))) lx_l_law_balanced_1) (fun j => D.tup [en (Ee es j), .int (Ff row j)]) (fun i ρ => ∃ y7 y8 y9, ρ = [.int V, .lst false (Ed es), .lst false (I row), .lst true (I (Xq V es row i)), y7, y8, y9]) (List.range es.length) (ρ := [.int V, .lst false (Ed es), .lst false (I row), .lst true (I (Xq V es row 0)), .gone, .gone, .gone]) ⟨.gone, .gone, .gone, rfl⟩ (by
    rintro i hi _ ⟨y7, y8, y9, rfl⟩
    simp only [List.length_range] at hi
    obtain ⟨a, b, hab⟩ : ∃ a b, Ee es i = (a, b) := ⟨_, _, rfl⟩
    have hm : Ee es i ∈ es := by simp [Ee, List.getD, hi]
    have hr := hE _ hm
    rw [hab] at hr
    obtain ⟨ha, hb⟩ := hr
    simp only at ha hb
    refine ⟨_, ?_, .int (Ff row i), .int a, .int b, rfl⟩
    rw [List.getElem_range, hab, en, turnF_nest, ← exq_set V es row i a b ha hb hab]
    by_cases hne : a = b
    · subst hne
      simp [lx_l_law_balanced_1, ha, storeI, putD]
    · simp [lx_l_law_balanced_1, ha, hb, storeI, putD, hne])
  have e0 : I (Xq V es row 0) = List.replicate V (D.int 0) := by
    simp only [I, Xq, List.map_map]
    apply List.ext_getElem
    · simp
    · intro w h1 h2
      simp [exq, Su]
  rw [e0, List.length_range, ← zip_enc es row hf] at e
  exact ⟨y7, y8, y9, e⟩
theorem bal_ok (o o2 : Bool) (hE : inR V es) (hV : V ≤ 100) (hf : row.length = es.length) : m_l_law_balanced [.int V, .lst o (Ed es), .lst o2 (I row)] = .ok (.bl (decide (nz V es row = []))) [.int V, .lst false (Ed es), .lst false (I row)] := by
  have hm := bd_mul_l true [D.int 0] V (by simp) (by omega) (by simp; omega)
  rw [repl0] at hm
  have hm' := hm
  rw [I, List.map_replicate] at hm
  obtain ⟨y7, y8, y9, e⟩ := bal_loop (row := row) hE hV hf
  have heq : eqL (I (Xq V es row es.length)) (I (List.replicate V 0)) = decide (nz V es row = []) := by
    rw [eqL_ints, Bool.eq_iff_iff, decide_eq_true_iff, decide_eq_true_iff, nz_nil]
    constructor
    · intro h w hw
      have h2 : (Xq V es row es.length)[w]? = (List.replicate V (0 : Int))[w]? := by rw [h]
      simpa [hw, exq_all] using h2
    · intro h
      apply List.ext_getElem
      · simp
      · intro w h1 h2
        simp at h1
        simp [exq_all, h w h1]
  have ho1 := okL_ints 63 (Xq V es row es.length)
  have ho2 := okL_ints 63 (List.replicate V 0)
  have hsh := shL_map D.int (List.replicate V 0) (by simp)
  rw [List.map_replicate] at hsh
  rw [I, I, List.map_replicate] at heq
  rw [List.map_replicate] at ho2
  simp only [I] at e
  generalize List.map D.int (Xq V es row es.length) = q at *
  cases o <;> cases o2 <;> simp [m_l_law_balanced, b_l_law_balanced, dF, small64_eq, hm, e, heq, ho1, ho2, hsh]
theorem fr_comp (o1 o2 o3 : Bool) (x0 x1 : D) (hlo : lo.length = es.length) (hhi : hi.length = es.length) (hf : row.length = es.length) : compL (turnC c_l_law_flow_right (.var 5) [5] cx_l_law_flow_right_1 ex_l_law_flow_right_2) (rngL 0 es.length) [x0, x1, .lst o1 (I lo), .lst o2 (I hi), .lst o3 (I row), .gone] none = .ok (N (bd lo hi row es.length), none) := by
  rw [rng_enc]
  refine comp_some (fun j : Nat => D.int j) (fun j => !(decide (Ff lo j ≤ Ff row j) && decide (Ff row j ≤ Ff hi j))) (fun j : Nat => D.int j) ?_
  intro j hj
  simp only [List.mem_range] at hj
  have h1 : j < lo.length := by omega
  have h2 : j < hi.length := by omega
  have h3 : j < row.length := by omega
  rw [turnC_var, Ff_at h1, Ff_at h2, Ff_at h3]
  by_cases q1 : lo[j] ≤ row[j] <;> by_cases q2 : row[j] ≤ hi[j] <;> simp [cx_l_law_flow_right_1, ex_l_law_flow_right_2, h1, h2, h3, q1, q2]
theorem flow_ok (o o1 o2 o3 : Bool) (hE : inR V es) (hV : V ≤ 100) (hl : es.length ≤ 1000) (hlo : lo.length = es.length) (hhi : hi.length = es.length) : ∃ o' o3', (o = false → o' = false) ∧ (o3 = false → o3' = false) ∧ m_l_law_flow_right [.int V, .lst o (Ed es), .lst o1 (I lo), .lst o2 (I hi), .lst o3 (I row)] = .ok (.bl (flowB V es lo hi row)) [.int V, .lst o' (Ed es), .lst o1 (I lo), .lst o2 (I hi), .lst o3' (I row)] := by
  by_cases hf : row.length = es.length
  · have h1 := bal_ok (V := V) o o3 hE hV hf
    have hr : okR (es.length : Int) = true := okR_nat _ (by omega)
    have hbl := bd_len lo hi row es.length
    have h2 := fr_comp o1 o2 false (.int V) (.lst false (Ed es)) hlo hhi hf
    refine ⟨false, false, fun _ => rfl, fun _ => rfl, ?_⟩
    unfold flowB
    by_cases hn : nz V es row = []
    · simp only [hn, decide_true] at h1 ⊢
      generalize bd lo hi row es.length = b at *
      have hb2 : b.length ≤ 16777216 := by omega
      have hb3 : decide (b.length = 0) = decide (b = []) := by cases b <;> simp
      cases o <;> cases o3 <;> simp [m_l_law_flow_right, b_l_law_flow_right, dF, small64_eq, hf, h1, h2, hr, hb2]
    · simp only [hn, decide_false] at h1 ⊢
      cases o <;> cases o3 <;> simp [m_l_law_flow_right, b_l_law_flow_right, dF, small64_eq, hf, h1]
  · refine ⟨o, o3, fun h => h, fun h => h, ?_⟩
    unfold flowB
    simp [m_l_law_flow_right, b_l_law_flow_right, dF, small64_eq, hf]
end
end k87
namespace k87
open Mp Mq
abbrev Pf (row : List Int) : D := .tup [.str "flow", .lst false (I row)]
abbrev Ps (side : List Nat) : D := .tup [.str "set", .tup (N side)]
section
variable {V : Nat} {es : List (Nat × Nat)} {lo hi row : List Int}
theorem lb (o : Bool) (xs : List Int) : D.lst o (I xs) = .lst true (I xs) ∨ D.lst o (I xs) = .lst false (I xs) := by cases o <;> simp
theorem lb2 (o : Bool) (xs : List Int) : D.lst o (I xs) = .tup (I xs) ∨ D.lst o (I xs) = .lst true (I xs) ∨ D.lst o (I xs) = .lst false (I xs) := by cases o <;> simp
theorem jc_comp (o1 o2 : Bool) (x0 x3 x4 : D) (hlo : lo.length = es.length) (hhi : hi.length = es.length) (hf : row.length = es.length) : compL (turnC c_judge_circulation (.var 6) [6] cx_judge_circulation_3 ex_judge_circulation_4) (rngL 0 es.length) [x0, .lst o1 (I lo), .lst o2 (I hi), x3, x4, .lst false (I row), .gone, .gone] none = .ok (N (bd lo hi row es.length), none) := by
  rw [rng_enc]
  refine comp_some (fun j : Nat => D.int j) (fun j => !(decide (Ff lo j ≤ Ff row j) && decide (Ff row j ≤ Ff hi j))) (fun j : Nat => D.int j) ?_
  intro j hj
  simp only [List.mem_range] at hj
  have h1 : j < lo.length := by omega
  have h2 : j < hi.length := by omega
  have h3 : j < row.length := by omega
  rw [turnC_var, Ff_at h1, Ff_at h2, Ff_at h3]
  by_cases q1 : lo[j] ≤ row[j] <;> by_cases q2 : row[j] ≤ hi[j] <;> simp [cx_judge_circulation_3, ex_judge_circulation_4, h1, h2, h3, q1, q2]
theorem jc_need (x0 x1 x2 x3 x4 x5 : D) : compL (turnC c_judge_circulation (.var 7) [7] cx_judge_circulation_1 ex_judge_circulation_2) (I (Xq V es row es.length)) [x0, x1, x2, x3, x4, x5, .gone, .gone] none = .ok (I (nz V es row), none) := by
  refine comp_some D.int (fun x => !decide (x = 0)) D.int ?_
  intro x _
  rw [turnC_var]
  by_cases h : x = 0 <;> simp [cx_judge_circulation_1, ex_judge_circulation_2, h]
theorem judge_flow (o1 o2 : Bool) (hE : inR V es) (hV : V ≤ 100) (hl : es.length ≤ 1000) (hlo : lo.length = es.length) (hhi : hi.length = es.length) (hb : ∀ j, j < es.length → Ff lo j ≤ Ff hi j) : m_judge_circulation [G V es, .lst o1 (I lo), .lst o2 (I hi), Pf row] = .ok (.bl (flowB V es lo hi row)) [G V es, .lst o1 (I lo), .lst o2 (I hi), Pf row] := by
  have e1 := cb_ok (V := V) (.lst o1 (I lo)) (.lst o2 (I hi)) (lb o1 lo) (lb2 o2 hi) hl hlo hhi hb
  unfold flowB
  by_cases hf : row.length = es.length
  · have hr : okR (es.length : Int) = true := okR_nat _ (by omega)
    have e2 := jc_comp (es := es) (lo := lo) (hi := hi) (row := row) o1 o2 (G V es) (Pf row) (.str "flow") hlo hhi hf
    have e3 := excess_ok (V := V) (es := es) (f := row) hE hV hf
    have e4 := jc_need (V := V) (es := es) (row := row) (G V es) (.lst o1 (I lo)) (.lst o2 (I hi)) (Pf row) (.str "flow") (.lst false (I row))
    have hbl := bd_len lo hi row es.length
    have hnl := nz_len V es row
    generalize bd lo hi row es.length = b at *
    generalize nz V es row = z at *
    generalize Xq V es row es.length = xq at *
    have hb2 : b.length ≤ 16777216 := by omega
    have hz2 : z.length ≤ 16777216 := by omega
    cases b with
    | nil =>
      cases z with
      | nil => cases o1 <;> cases o2 <;> simp [m_judge_circulation, b_judge_circulation, dF, small64_eq, e1, e2, e3, e4, hf, hr, notD]
      | cons y z =>
        simp only [List.length_cons] at hz2
        cases o1 <;> cases o2 <;> simp [m_judge_circulation, b_judge_circulation, dF, small64_eq, e1, e2, e3, e4, hf, hr, notD, hz2]
    | cons y b =>
      simp only [List.length_cons] at hb2
      cases o1 <;> cases o2 <;> simp [m_judge_circulation, b_judge_circulation, dF, small64_eq, e1, e2, hf, hr, hb2]
  · cases o1 <;> cases o2 <;> simp [m_judge_circulation, b_judge_circulation, dF, small64_eq, e1, hf]
theorem judge_flow_no (o1 o2 : Bool) (hl : es.length ≤ 1000) (hlo : lo.length = es.length) (hhi : hi.length = es.length) (hb : ∀ j, j < es.length → Ff lo j ≤ Ff hi j) (hf : row.length ≠ es.length) : m_judge_circulation [G V es, .lst o1 (I lo), .lst o2 (I hi), .tup [.str "flow", .lst true (I row)]] = .ok (.bl false) [G V es, .lst o1 (I lo), .lst o2 (I hi), Pf row] := by
  have e1 := cb_ok (V := V) (.lst o1 (I lo)) (.lst o2 (I hi)) (lb o1 lo) (lb2 o2 hi) hl hlo hhi hb
  cases o1 <;> cases o2 <;> simp [m_judge_circulation, b_judge_circulation, dF, small64_eq, e1, hf]
theorem judge_set (o1 o2 : Bool) (side : List Nat) (hV : V ≤ 50) (hl : es.length ≤ 1000) (hlo : lo.length = es.length) (hhi : hi.length = es.length) (hb : ∀ j, j < es.length → Ff lo j ≤ Ff hi j) (hs : side.Pairwise (· < ·)) (hsv : ∀ v ∈ side, v < V) : m_judge_circulation [G V es, .lst o1 (I lo), .lst o2 (I hi), Ps side] = .ok (.bl (setR es lo hi side)) [G V es, .lst false (I lo), .lst false (I hi), Ps side] := by
  have e1 := cb_ok (V := V) (.lst o1 (I lo)) (.lst o2 (I hi)) (lb o1 lo) (lb2 o2 hi) hl hlo hhi hb
  have hsl : side.length ≤ V := nodup_lt V side (hs.imp fun h => by omega) hsv
  have e2 := vset_ok (es := es) side hs (by omega) hsv
  have e3 := insum_ok (V := V) (lo := lo) o1 side hlo
  have e4 := outsum_ok (V := V) (c := hi) o2 side hhi
  cases o1 <;> cases o2 <;> simp [m_judge_circulation, b_judge_circulation, dF, small64_eq, e1, e2, e3, e4, setR]
theorem judge_way (o1 o2 : Bool) (hl : es.length ≤ 1000) (hlo : lo.length = es.length) (hhi : hi.length = es.length) (hb : ∀ j, j < es.length → Ff lo j ≤ Ff hi j) : m_judge_circulation [G V es, .lst o1 (I lo), .lst o2 (I hi), .tup [.str "way", .lst false (I row)]] = .ok (.bl false) [G V es, .lst o1 (I lo), .lst o2 (I hi), .tup [.str "way", .lst false (I row)]] := by
  have e1 := cb_ok (V := V) (.lst o1 (I lo)) (.lst o2 (I hi)) (lb o1 lo) (lb2 o2 hi) hl hlo hhi hb
  cases o1 <;> cases o2 <;> simp [m_judge_circulation, b_judge_circulation, dF, small64_eq, e1]
@[simp] theorem sub22 : sub 2 2 = true := by decide
@[simp] theorem sub12 : sub 1 2 = false := by decide
@[simp] theorem sub11 : sub 1 1 = true := by decide
theorem ref_1 (ask : Nat) (ha : ask = 0 ∨ ask = 1) (o2 : Bool) (h : lo.length ≠ es.length) : ∃ d1 d2, m_l_law_refusal [.int ask, G V es, .lst true (I lo), .lst o2 (I hi)] = .ok (.str "bounds") [.int ask, G V es, d1, d2] := by
  have e := cb_no (V := V) (hi := hi) (.lst true (I lo)) (.lst o2 (I hi)) (lb true lo) (lb2 o2 hi) h
  rcases ha with rfl | rfl
  · cases o2 <;> exact ⟨_, _, by simp [m_l_law_refusal, b_l_law_refusal, m_circulation, b_circulation, st_circulation_9, dF, small64_eq, e, dXe]; first | exact ⟨rfl, rfl⟩ | rfl⟩
  · cases o2 <;> exact ⟨_, _, by simp [m_l_law_refusal, b_l_law_refusal, m_judge_circulation, b_judge_circulation, dF, small64_eq, e, dXe]; first | exact ⟨rfl, rfl⟩ | rfl⟩
theorem ref_2 (ask : Nat) (ha : ask = 0 ∨ ask = 1) : ∃ d1 d2, m_l_law_refusal [.int ask, G 1 [(0, 0)], .lst true (I [1]), .lst true (I [0])] = .ok (.str "bounds") [.int ask, G 1 [(0, 0)], d1, d2] := by
  have e := cb_no2
  rcases ha with rfl | rfl
  · exact ⟨_, _, by simp only [I, G] at e; simp at e; simp [m_l_law_refusal, b_l_law_refusal, m_circulation, b_circulation, st_circulation_9, dF, small64_eq, e, dXe]; first | exact ⟨rfl, rfl⟩ | rfl⟩
  · exact ⟨_, _, by simp only [I, G] at e; simp at e; simp [m_l_law_refusal, b_l_law_refusal, m_judge_circulation, b_judge_circulation, dF, small64_eq, e, dXe]; first | exact ⟨rfl, rfl⟩ | rfl⟩
end
end k87
namespace k87
open Mp Mq
theorem plain_same (b : Bool) : ∃ p x, m_l_law_plain [.bl b] = .ok p [x] ∧ soft p = some p ∧ okD 64 p = true ∧ eqD p p = true := by
  obtain ⟨p, x1, x2, q1, q2, q3, q4, q5, q6⟩ := plain_pair (.bl b) (.bl b) rfl rfl rfl
  exact ⟨p, x1, q1, q3, q4, q5⟩
section
variable {V : Nat} {es : List (Nat × Nat)} {lo hi : List Int} (hE : inR V es) (hV : V ≤ 5) (hl : es.length ≤ 7) (hlo : lo.length = es.length) (hhi : hi.length = es.length) (hb : ∀ j, j < es.length → Ff lo j ≤ Ff hi j)
include hE hV hl hlo hhi hb
theorem jr_turn (dk x5 x8 : D) (o o1 o2 : Bool) (side : List Nat) (hs : side.Pairwise (· < ·)) (hsv : ∀ v ∈ side, v < V) :
    ∃ b, dSs c_l_law_judged_right lx_l_law_judged_right_2 [dk, G V es, .lst o (Ed es), .lst o1 (I lo), .lst o2 (I hi), x5, tp side, g, x8, g] = .nx [dk, G V es, .lst o (Ed es), .lst false (I lo), .lst false (I hi), x5, tp side, g, b, g] := by
  have e1 := set_ok (es := es) (lo := lo) (hi := hi) o o1 o2 side (by omega) hlo hhi
  have e2 := judge_set (V := V) (es := es) o1 o2 side (by omega) (by omega) hlo hhi hb hs hsv
  generalize setR es lo hi side = b at *
  obtain ⟨p, x, q1, q2, q3, q4⟩ := plain_same b
  refine ⟨.bl b, ?_⟩
  cases o <;> cases o1 <;> cases o2 <;> simp [lx_l_law_judged_right_2, st_l_law_judged_right_7, st_l_law_judged_right_6, e1, e2, q1, q2, q3, q4]
theorem jr_loop (dk : D) (o o1 o2 : Bool) : ∃ o1' o2' a6 a8, loopF (turnF c_l_law_judged_right (.var 6) lx_l_law_judged_right_2) ((subs V).map tp) [dk, G V es, .lst o (Ed es), .lst o1 (I lo), .lst o2 (I hi), .int V, g, g, g, g] = .nx [dk, G V es, .lst o (Ed es), .lst o1' (I lo), .lst o2' (I hi), .int V, a6, g, a8, g] := by
  obtain ⟨ρ, e, o1', o2', a6, a8, rfl⟩ := loop_keep (turn := turnF c_l_law_judged_right (.var 6) lx_l_law_judged_right_2) tp (fun ρ => ∃ o1' o2' a6 a8, ρ = [dk, G V es, .lst o (Ed es), .lst o1' (I lo), .lst o2' (I hi), .int V, a6, g, a8, g]) (subs V) [dk, G V es, .lst o (Ed es), .lst o1 (I lo), .lst o2 (I hi), .int V, g, g, g, g] ⟨o1, o2, g, g, rfl⟩ (by
    rintro side _ hside ⟨o1', o2', a6, a8, rfl⟩
    have hm := (mem_subs V side).1 hside
    obtain ⟨b, e⟩ := jr_turn hE hV hl hlo hhi hb dk (.int V) a8 o o1' o2' side hm.1 hm.2
    refine ⟨_, ?_, false, false, tp side, b, rfl⟩
    rw [turnF_var]
    exact e)
  exact ⟨o1', o2', a6, a8, e⟩
theorem jr_row (xs : List Int) (o o1 o2 : Bool) (a6 a8 : D) (h5 : ∀ j, j < es.length → Ff hi j - Ff lo j ≤ 1000) : ∃ xs' row o', row.length = es.length ∧ compL (turnC c_l_law_judged_right (.var 9) [9] .nil ex_l_law_judged_right_1) (rngL 0 es.length) [L xs, G V es, .lst o (Ed es), .lst o1 (I lo), .lst o2 (I hi), .int V, a6, g, a8, g] none = .ok (I row, o') ∧ now [L xs, G V es, .lst o (Ed es), .lst o1 (I lo), .lst o2 (I hi), .int V, a6, g, a8, g] o' = [L xs', G V es, .lst o (Ed es), .lst o1 (I lo), .lst o2 (I hi), .int V, a6, g, a8, g] := by
  obtain ⟨ys, o', e, xs', row, h1, h2, h3⟩ := comp_rng (turn := turnC c_l_law_judged_right (.var 9) [9] .nil ex_l_law_judged_right_1) (ρ := [L xs, G V es, .lst o (Ed es), .lst o1 (I lo), .lst o2 (I hi), .int V, a6, g, a8, g]) (fun j ρ acc => ∃ xs' row, ρ = [L xs', G V es, .lst o (Ed es), .lst o1 (I lo), .lst o2 (I hi), .int V, a6, g, a8, g] ∧ acc = I row ∧ row.length = j) es.length ⟨xs, [], rfl, rfl, rfl⟩ (by
    rintro j _ _ hj ⟨xs', row, rfl, rfl, h3⟩
    have q1 : j < lo.length := by omega
    have q2 : j < hi.length := by omega
    have hbj := hb j hj
    rw [Ff_at q1, Ff_at q2] at hbj
    obtain ⟨x2, k, hk, t⟩ := take_ok xs' ((hi[j] - lo[j] + 2).toNat) (by omega)
    rw [Int.toNat_of_nonneg (by omega)] at t
    refine ⟨[.int (lo[j] + k)], some [L x2, G V es, .lst o (Ed es), .lst o1 (I lo), .lst o2 (I hi), .int V, a6, g, a8, g], ?_, x2, row ++ [lo[j] + k], rfl, by simp, by simp [h3]⟩
    simp [turnC_var, ex_l_law_judged_right_1, q1, q2, t])
  subst h2
  exact ⟨xs', row, o', h3, e, h1⟩
theorem jr_ok (xs : List Int) (o o1 o2 : Bool) (h5 : ∀ j, j < es.length → Ff hi j - Ff lo j ≤ 1000) : ∃ xs' o' o1' o2', m_l_law_judged_right [L xs, G V es, .lst o (Ed es), .lst o1 (I lo), .lst o2 (I hi)] = .ok (.bl true) [L xs', G V es, .lst o' (Ed es), .lst o1' (I lo), .lst o2' (I hi)] := by
  have h1 := subs_ok V (by omega)
  have hs := shL_tp (subs V)
  obtain ⟨p1, p2, a6, a8, e1⟩ := jr_loop hE hV hl hlo hhi hb (L xs) o o1 o2
  obtain ⟨xs', row, oc, hrl, e2, e3⟩ := jr_row hE hV hl hlo hhi hb xs o p1 p2 a6 a8 h5
  have hr : okR (es.length : Int) = true := okR_nat _ (by omega)
  obtain ⟨o', o3', ho', ho3, e4⟩ := flow_ok (V := V) (es := es) (lo := lo) (hi := hi) (row := row) o p1 p2 true hE (by omega) (by omega) hlo hhi
  have e5 := judge_flow (V := V) (es := es) (row := row) p1 p2 hE (by omega) (by omega) hlo hhi hb
  have e6 := judge_flow_no (V := V) (es := es) (row := row ++ [0]) p1 p2 (by omega) hlo hhi hb (by simp; omega)
  have e7 := judge_way (V := V) (es := es) (row := row) p1 p2 (by omega) hlo hhi hb
  generalize flowB V es lo hi row = b at *
  obtain ⟨p, x, q1, q2, q3, q4⟩ := plain_same b
  have hrl2 : row.length ≤ 16777216 := by omega
  have hrl3 : row.length + 1 ≤ 16777216 := by omega
  have e6' : m_judge_circulation [G V es, .lst p1 (I lo), .lst p2 (I hi), .tup [.str "flow", .lst true (I row ++ [.int 0])]] = .ok (.bl false) [G V es, .lst p1 (I lo), .lst p2 (I hi), .tup [.str "flow", .lst false (I row ++ [.int 0])]] := by
    have : I (row ++ [0]) = I row ++ [.int 0] := by simp [I]
    rw [← this]; exact e6
  refine ⟨xs', o', p1, p2, ?_⟩
  have s7 : dS c_l_law_judged_right st_l_law_judged_right_9 [L xs, G V es, .lst o (Ed es), .lst o1 (I lo), .lst o2 (I hi), g, g, g, g, g] = .nx [L xs, G V es, .lst o (Ed es), .lst o1 (I lo), .lst o2 (I hi), .int V, g, g, g, g] := by
    simp [st_l_law_judged_right_9]
  have s6 : dS c_l_law_judged_right st_l_law_judged_right_8 [L xs, G V es, .lst o (Ed es), .lst o1 (I lo), .lst o2 (I hi), .int V, g, g, g, g] = .nx [L xs, G V es, .lst o (Ed es), .lst p1 (I lo), .lst p2 (I hi), .int V, a6, g, a8, g] := by
    simp [st_l_law_judged_right_8, h1, hs, e1]
  have s5 : dS c_l_law_judged_right st_l_law_judged_right_5 [L xs, G V es, .lst o (Ed es), .lst p1 (I lo), .lst p2 (I hi), .int V, a6, g, a8, g] = .nx [L xs', G V es, .lst o (Ed es), .lst p1 (I lo), .lst p2 (I hi), .int V, a6, .lst true (I row), a8, g] := by
    cases oc with
    | none =>
      simp only [Mq.now_none] at e3
      have hxx : L xs = L xs' := by
        have := congrArg (fun l : Env => l[0]?) e3
        simpa using this
      rw [← hxx]
      simp [st_l_law_judged_right_5, e2, hr, hrl2]
    | some r =>
      simp only [Mq.now_some] at e3
      subst e3
      simp [st_l_law_judged_right_5, e2, hr, hrl2]
  have s4 : dS c_l_law_judged_right st_l_law_judged_right_4 [L xs', G V es, .lst o (Ed es), .lst p1 (I lo), .lst p2 (I hi), .int V, a6, .lst true (I row), a8, g] = .nx [L xs', G V es, .lst o' (Ed es), .lst p1 (I lo), .lst p2 (I hi), .int V, a6, .lst o3' (I row), .bl b, g] := by
    cases o <;> (try (have ho' := ho' rfl; subst ho')) <;> cases p1 <;> cases p2 <;> simp [st_l_law_judged_right_4, e4]
  have s3 : dS c_l_law_judged_right st_l_law_judged_right_3 [L xs', G V es, .lst o' (Ed es), .lst p1 (I lo), .lst p2 (I hi), .int V, a6, .lst o3' (I row), .bl b, g] = .nx [L xs', G V es, .lst o' (Ed es), .lst p1 (I lo), .lst p2 (I hi), .int V, a6, .lst false (I row), .bl b, g] := by
    cases o3' <;> cases p1 <;> cases p2 <;> simp [st_l_law_judged_right_3, e5, q1, q2, q3, q4]
  have s2 : dS c_l_law_judged_right st_l_law_judged_right_2 [L xs', G V es, .lst o' (Ed es), .lst p1 (I lo), .lst p2 (I hi), .int V, a6, .lst false (I row), .bl b, g] = .nx [L xs', G V es, .lst o' (Ed es), .lst p1 (I lo), .lst p2 (I hi), .int V, a6, .lst false (I row), .bl b, g] := by
    cases p1 <;> cases p2 <;> simp [st_l_law_judged_right_2, e6', hrl3]
  have s1 : dS c_l_law_judged_right st_l_law_judged_right_1 [L xs', G V es, .lst o' (Ed es), .lst p1 (I lo), .lst p2 (I hi), .int V, a6, .lst false (I row), .bl b, g] = .ret (.bl true) [L xs', G V es, .lst o' (Ed es), .lst p1 (I lo), .lst p2 (I hi), .int V, a6, .lst false (I row), .bl b, g] := by
    cases p1 <;> cases p2 <;> simp [st_l_law_judged_right_1, e7]
  refine dF_ret (ρ := [L xs', G V es, .lst o' (Ed es), .lst p1 (I lo), .lst p2 (I hi), .int V, a6, .lst false (I row), .bl b, g]) rfl ?_
  show dSs c_l_law_judged_right (.cons st_l_law_judged_right_9 (.cons st_l_law_judged_right_8 (.cons st_l_law_judged_right_5 (.cons st_l_law_judged_right_4 (.cons st_l_law_judged_right_3 (.cons st_l_law_judged_right_2 (.cons st_l_law_judged_right_1 .nil))))))) [L xs, G V es, .lst o (Ed es), .lst o1 (I lo), .lst o2 (I hi), g, g, g, g, g] = _
  rw [dSs_cons, s7, seq_nx, dSs_cons, s6, seq_nx, dSs_cons, s5, seq_nx, dSs_cons, s4, seq_nx, dSs_cons, s3, seq_nx, dSs_cons, s2, seq_nx, dSs_cons, s1, seq_ret]
end
end k87
namespace k87
open Mp Mq
abbrev Lv (ns : List Int) (dk : D) (V : Nat) (es : List (Nat × Nat)) (o3 : Bool) (sc : Int) (lo : List Int) (o6 : Bool) (hi : List Int) (o7 : Bool) (sides : List (List Nat)) (a9 a10 : D) : Env := [.scr ns, dk, .int V, .lst o3 (Ed es), G V es, .int sc, .lst o6 (I lo), .lst o7 (I hi), .lst true (sides.map tp), a9, a10, g, g, g, g]
section
variable (ns : List Int) (V : Nat) (es : List (Nat × Nat))
theorem s16 : ∃ xs, dS c_law st_law_16 [.scr ns, g, g, g, g, g, g, g, g, g, g, g, g, g, g] = .nx [.scr ns, L xs, g, g, g, g, g, g, g, g, g, g, g, g, g] := by
  obtain ⟨xs, outs, ed⟩ := deck_ok ns
  exact ⟨xs, by simp [st_law_16, ed]⟩
theorem s15 (xs : List Int) : ∃ xs' V, 1 ≤ V ∧ V ≤ 5 ∧ dS c_law st_law_15 [.scr ns, L xs, g, g, g, g, g, g, g, g, g, g, g, g, g] = .nx [.scr ns, L xs', .int (V : Nat), g, g, g, g, g, g, g, g, g, g, g, g] := by
  obtain ⟨x1, r, hr, t⟩ := take_ok xs 5 (by omega)
  refine ⟨x1, 1 + r, by omega, by omega, ?_⟩
  simp at t
  simp [st_law_15, t]
theorem s14 (xs : List Int) (hV : 1 ≤ V) : ∃ xs' es, es.length ≤ 7 ∧ inR V es ∧ dS c_law st_law_14 [.scr ns, L xs, .int V, g, g, g, g, g, g, g, g, g, g, g, g] = .nx [.scr ns, L xs', .int V, .lst true (Ed es), g, g, g, g, g, g, g, g, g, g, g] := by
  obtain ⟨es, x1, e, h1, h2⟩ := edges_ok xs V 7 (by omega) (by omega)
  refine ⟨x1, es, h1, h2, ?_⟩
  simp at e
  simp [st_law_14, e]
theorem s13 (dk : D) (hl : es.length ≤ 7) (hE : inR V es) : dS c_law st_law_13 [.scr ns, dk, .int V, .lst true (Ed es), g, g, g, g, g, g, g, g, g, g, g] = .nx [.scr ns, dk, .int V, .lst true (Ed es), G V es, g, g, g, g, g, g, g, g, g, g] := by
  have h := init_ok V (.lst true (Ed es)) es (.inl ⟨_, rfl⟩) hE (by omega)
  have hl2 : es.length ≤ 16777216 := by omega
  simp [st_law_13, h, hl2]
theorem s12 (xs : List Int) (a3 a4 : D) : ∃ xs', ∃ sc : Int, (sc = 1 ∨ sc = 1000000000000) ∧ dS c_law st_law_12 [.scr ns, L xs, .int V, a3, a4, g, g, g, g, g, g, g, g, g, g] = .nx [.scr ns, L xs', .int V, a3, a4, .int sc, g, g, g, g, g, g, g, g, g] := by
  obtain ⟨x1, r, hr, t⟩ := take_ok xs 4 (by omega)
  simp at t
  rcases (show r = 0 ∨ r = 1 ∨ r = 2 ∨ r = 3 by omega) with rfl | rfl | rfl | rfl
  · exact ⟨x1, 1, .inl rfl, by simp at t; simp [st_law_12, t, itemD, place]⟩
  · exact ⟨x1, 1, .inl rfl, by simp at t; simp [st_law_12, t, itemD, place]⟩
  · exact ⟨x1, 1, .inl rfl, by simp at t; simp [st_law_12, t, itemD, place]⟩
  · exact ⟨x1, _, .inr rfl, by simp at t; simp [st_law_12, t, itemD, place]⟩
theorem s11 (xs : List Int) (a4 : D) (sc : Int) (hsc : sc = 1 ∨ sc = 1000000000000) (hl : es.length ≤ 7) : ∃ xs' lo, lo.length = es.length ∧ (∀ x ∈ lo, ∃ k : Int, -4 ≤ k ∧ k ≤ 4 ∧ x = k * sc) ∧ dS c_law st_law_11 [.scr ns, L xs, .int V, .lst true (Ed es), a4, .int sc, g, g, g, g, g, g, g, g, g] = .nx [.scr ns, L xs', .int V, .lst true (Ed es), a4, .int sc, .lst true (I lo), g, g, g, g, g, g, g, g] := by
  obtain ⟨ys, o', e, xs', c, h1, h2, h3, h4⟩ := comp_inv (turn := turnC c_law (.var 11) [11] .nil ex_law_6) (fun j ρ acc => ∃ xs' c, ρ = [.scr ns, L xs', .int V, g, a4, .int sc, g, g, g, g, g, g, g, g, g] ∧ acc = I c ∧ c.length = j ∧ ∀ x ∈ c, ∃ k : Int, -4 ≤ k ∧ k ≤ 4 ∧ x = k * sc) (xs := Ed es) (ρ := [.scr ns, L xs, .int V, g, a4, .int sc, g, g, g, g, g, g, g, g, g]) (o := none) (acc := []) 0 ⟨xs, [], rfl, rfl, rfl, by simp⟩ (by
    rintro j x _ _ hx ⟨xs', c, rfl, rfl, h3, h4⟩
    obtain ⟨x2, k, hk, t⟩ := take_ok xs' 9 (by omega)
    obtain ⟨⟨a, b⟩, _, rfl⟩ : ∃ p, p ∈ es ∧ en p = x := by
      have := List.mem_of_getElem? hx
      simpa using this
    refine ⟨[.int (((k : Int) - 4) * sc)], some [.scr ns, L x2, .int V, g, a4, .int sc, g, g, g, g, g, g, g, g, g], ?_, x2, c ++ [((k : Int) - 4) * sc], rfl, by simp, by simp [h3], ?_⟩
    · simp at t
      have h64 : small64 sc = true := by rcases hsc with rfl | rfl <;> rfl
      simp [turnC_var, ex_law_6, t, h64]
    · intro x hx
      rcases List.mem_append.1 hx with h | h
      · exact h4 x h
      · simp at h; exact ⟨(k : Int) - 4, by omega, by omega, h⟩)
  simp only [List.nil_append, Nat.zero_add, List.length_map] at h2 h3
  subst h2
  refine ⟨xs', c, h3, h4, ?_⟩
  have hcl : c.length ≤ 16777216 := by omega
  cases o' with
  | none =>
    simp at h1
    simp [st_law_11, e, hcl, h1]
  | some r =>
    simp at h1
    simp [st_law_11, e, hcl, h1]
theorem s10 (xs : List Int) (a4 : D) (sc : Int) (hsc : sc = 1 ∨ sc = 1000000000000) (lo : List Int) (hl : lo.length ≤ 7) : ∃ xs' hi, hi.length = lo.length ∧ (∀ j, j < lo.length → ∃ k : Nat, k < 6 ∧ Ff hi j = Ff lo j + k * sc) ∧ dS c_law st_law_10 [.scr ns, L xs, .int V, .lst true (Ed es), a4, .int sc, .lst true (I lo), g, g, g, g, g, g, g, g] = .nx [.scr ns, L xs', .int V, .lst true (Ed es), a4, .int sc, .lst true (I lo), .lst true (I hi), g, g, g, g, g, g, g] := by
  obtain ⟨ys, o', e, xs', c, h1, h2, h3, h4⟩ := comp_inv (turn := turnC c_law (.var 12) [12] .nil ex_law_5) (fun j ρ acc => ∃ xs' c, ρ = [.scr ns, L xs', .int V, .lst true (Ed es), a4, .int sc, g, g, g, g, g, g, g, g, g] ∧ acc = I c ∧ c.length = j ∧ ∀ i, i < c.length → ∃ k : Nat, k < 6 ∧ Ff c i = Ff lo i + k * sc) (xs := I lo) (ρ := [.scr ns, L xs, .int V, .lst true (Ed es), a4, .int sc, g, g, g, g, g, g, g, g, g]) (o := none) (acc := []) 0 ⟨xs, [], rfl, rfl, rfl, by simp⟩ (by
    rintro j x _ _ hx ⟨xs', c, rfl, rfl, h3, h4⟩
    obtain ⟨x2, k, hk, t⟩ := take_ok xs' 6 (by omega)
    have hjl : j < lo.length := by
      have := (List.getElem?_eq_some_iff.1 hx).1
      simpa using this
    simp [I, hjl] at hx
    subst hx
    refine ⟨[.int (lo[j] + k * sc)], some [.scr ns, L x2, .int V, .lst true (Ed es), a4, .int sc, g, g, g, g, g, g, g, g, g], ?_, x2, c ++ [lo[j] + k * sc], rfl, by simp, by simp [h3], ?_⟩
    · simp at t
      have h64 : small64 sc = true := by rcases hsc with rfl | rfl <;> rfl
      simp [turnC_var, ex_law_5, t, h64]
    · intro i hi
      rw [Ff_app]
      by_cases hic : i < c.length
      · rw [if_pos hic]; exact h4 i hic
      · have : i = j := by simp at hi; omega
        subst this
        rw [if_neg hic]
        refine ⟨k, hk, ?_⟩
        have : i - c.length = 0 := by omega
        rw [this, Ff_at hjl]; rfl)
  simp only [List.nil_append, Nat.zero_add, List.length_map] at h2 h3
  subst h2
  refine ⟨xs', c, h3, fun j hj => h4 j (by omega), ?_⟩
  have hcl : c.length ≤ 16777216 := by omega
  cases o' with
  | none =>
    simp at h1
    simp [st_law_10, e, hcl, h1]
  | some r =>
    simp at h1
    simp [st_law_10, e, hcl, h1]
def sds (V : Nat) (es : List (Nat × Nat)) (lo hi : List Int) : List (List Nat) := (subs V).filter fun r => setR es lo hi r
theorem mem_sds {V : Nat} {es : List (Nat × Nat)} {lo hi : List Int} {r : List Nat} : r ∈ sds V es lo hi ↔ (r.Pairwise (· < ·) ∧ ∀ x ∈ r, x < V) ∧ setR es lo hi r = true := by
  simp only [sds, List.mem_filter, mem_subs]
theorem s9 (dk a4 : D) (sc : Int) (lo hi : List Int) (hV : V ≤ 5) (hl : es.length ≤ 7) (hlo : lo.length = es.length) (hhi : hi.length = es.length) : dS c_law st_law_9 [.scr ns, dk, .int V, .lst true (Ed es), a4, .int sc, .lst true (I lo), .lst true (I hi), g, g, g, g, g, g, g] = .nx [.scr ns, dk, .int V, .lst true (Ed es), a4, .int sc, .lst true (I lo), .lst true (I hi), .lst true ((sds V es lo hi).map tp), g, g, g, g, g, g] := by
  have h1 := subs_ok V (by omega)
  have hsl := subs_len V
  have hp : 2 ^ V ≤ 2 ^ 5 := Nat.pow_le_pow_right (by omega) hV
  have hfl := List.length_filter_le (fun r => setR es lo hi r) (subs V)
  have hl' : (sds V es lo hi).length ≤ 16777216 := by unfold sds; omega
  have hs := shL_tp (subs V)
  obtain ⟨ys, o', e, h2, h3⟩ := comp_inv (turn := turnC c_law (.var 13) [13] cx_law_3 ex_law_4) (fun j ρ acc => ρ = [.scr ns, dk, .int V, .lst true (Ed es), a4, .int sc, .lst true (I lo), .lst true (I hi), g, g, g, g, g, g, g] ∧ acc = (((subs V).take j).filter fun r => setR es lo hi r).map tp) (xs := (subs V).map tp) (ρ := [.scr ns, dk, .int V, .lst true (Ed es), a4, .int sc, .lst true (I lo), .lst true (I hi), g, g, g, g, g, g, g]) (o := none) (acc := []) 0 ⟨rfl, rfl⟩ (by
    rintro j x _ _ hx ⟨rfl, rfl⟩
    have hjl : j < (subs V).length := by
      have := (List.getElem?_eq_some_iff.1 hx).1
      simpa using this
    simp only [List.getElem?_map, List.getElem?_eq_getElem hjl, Option.map_some, Option.some.injEq] at hx
    subst hx
    have e1 := set_ok (es := es) (lo := lo) (hi := hi) true true true (subs V)[j] (by omega) hlo hhi
    have ht : (subs V).take (0 + j + 1) = (subs V).take (0 + j) ++ [(subs V)[j]] := by
      rw [Nat.zero_add, List.take_succ_eq_append_getElem hjl]
    rw [turnC_var, ht, List.filter_append, List.map_append]
    cases hq : setR es lo hi (subs V)[j] with
    | true =>
      rw [hq] at e1
      refine ⟨[tp (subs V)[j]], some [.scr ns, dk, .int V, .lst true (Ed es), a4, .int sc, .lst true (I lo), .lst true (I hi), g, g, g, g, g, g, g], ?_, rfl, by simp [hq]⟩
      simp [cx_law_3, ex_law_4, e1]
    | false =>
      rw [hq] at e1
      refine ⟨[], some [.scr ns, dk, .int V, .lst true (Ed es), a4, .int sc, .lst true (I lo), .lst true (I hi), g, g, g, g, g, g, g], ?_, rfl, by simp [hq]⟩
      simp [cx_law_3, ex_law_4, e1])
  simp only [List.nil_append, List.length_map, Nat.zero_add, List.take_length] at h2 h3
  subst h3
  have hl2 := hl'
  simp only [sds] at hl2 ⊢
  cases o' with
  | none =>
    simp [st_law_9, h1, hs, e, hl2]
  | some r =>
    simp at h2
    subst h2
    simp [st_law_9, h1, hs, e, hl2]
end
end k87
namespace k87
open Mp Mq
section
variable (ns : List Int) (V : Nat) (es : List (Nat × Nat)) (lo hi : List Int) (sc : Int)
theorem s8 (dk : D) (d : D) (outs : List D) (sd : List (List Nat)) (hz : fzable d = true) (hl : lo.length ≤ 1000) (hh : hi.length ≤ 1000) (h : m_circulation [G V es, .lst true (I lo), .tup (I hi)] = .ok d outs) : dS c_law st_law_8 (Lv ns dk V es true sc lo true hi true sd g g) = .nx (Lv ns dk V es true sc lo true hi true sd (fz d) g) := by
  simp [st_law_8, h, hz]
theorem s7f (dk : D) (row : List Int) : dS c_law st_law_7 (Lv ns dk V es true sc lo true hi true [] (Pf row) g) = .nx (Lv ns dk V es true sc lo true hi true [] (Pf row) g) := by
  simp [st_law_7, isTy, tyD, tyEq, place, itemD]
theorem s7s (dk : D) (side : List Nat) (sd : List (List Nat)) (hs : sd ≠ []) : dS c_law st_law_7 (Lv ns dk V es true sc lo true hi true sd (Ps side) g) = .nx (Lv ns dk V es true sc lo true hi true sd (Ps side) g) := by
  have : ¬ sd.length = 0 := fun z => hs (List.eq_nil_of_length_eq_zero z)
  simp [st_law_7, isTy, tyD, tyEq, place, itemD, this]
theorem s6f (dk : D) (row : List Int) (sd : List (List Nat)) (hE : inR V es) (hV : V ≤ 5) (hl : es.length ≤ 7) (hlo : lo.length = es.length) (hhi : hi.length = es.length) (hf : flowB V es lo hi row = true) : ∃ o3, dS c_law st_law_6 (Lv ns dk V es true sc lo true hi true sd (Pf row) g) = .nx (Lv ns dk V es o3 sc lo true hi true sd (Pf row) g) := by
  obtain ⟨o', o3', _, h3, e⟩ := flow_ok (V := V) (es := es) (lo := lo) (hi := hi) (row := row) true true true false hE (by omega) (by omega) hlo hhi
  have h3 := h3 rfl
  subst h3
  rw [hf] at e
  have hc := comp_some (turn := turnC c_law (.var 14) [14] cx_law_1 ex_law_2) D.int (fun _ => false) D.int (xs := row) (ρ := [.scr ns, dk, .int V, .lst o' (Ed es), G V es, .int sc, .lst true (I lo), .lst true (I hi), .lst true (sd.map tp), Pf row, g, g, g, g, g]) (by
    intro x _
    simp [turnC_var, cx_law_1, ex_law_2, isTy, tyD, tyEq])
  rw [show row.filter (fun _ => false) = [] from List.filter_eq_nil_iff.2 (by simp)] at hc
  refine ⟨o', ?_⟩
  simp [st_law_6, isTy, tyD, tyEq, place, itemD, e, hc]
theorem s6s (dk : D) (side : List Nat) (sd : List (List Nat)) (hm : side ∈ sd) : dS c_law st_law_6 (Lv ns dk V es true sc lo true hi true sd (Ps side) g) = .nx (Lv ns dk V es true sc lo true hi true sd (Ps side) g) := by
  have hmd := memD_T side sd
  rw [decide_eq_true hm] at hmd
  have ho := okL_T 62 sd
  have hN := okL_N 63 side
  simp [st_law_6, isTy, tyD, tyEq, place, itemD, hmd, ho, hN]
theorem s5f (dk : D) (row : List Int) (sd : List (List Nat)) (o3 : Bool) (hE : inR V es) (hV : V ≤ 5) (hl : es.length ≤ 7) (hlo : lo.length = es.length) (hhi : hi.length = es.length) (hb : ∀ j, j < es.length → Ff lo j ≤ Ff hi j) (hf : flowB V es lo hi row = true) : dS c_law st_law_5 (Lv ns dk V es o3 sc lo true hi true sd (Pf row) g) = .nx (Lv ns dk V es o3 sc lo true hi true sd (Pf row) g) := by
  have e := judge_flow (V := V) (es := es) (row := row) true true hE (by omega) (by omega) hlo hhi hb
  rw [hf] at e
  simp [st_law_5, e]
theorem s5s (dk : D) (side : List Nat) (sd : List (List Nat)) (o3 : Bool) (hE : inR V es) (hV : V ≤ 5) (hl : es.length ≤ 7) (hlo : lo.length = es.length) (hhi : hi.length = es.length) (hb : ∀ j, j < es.length → Ff lo j ≤ Ff hi j) (hs : side.Pairwise (· < ·)) (hsv : ∀ v ∈ side, v < V) (hf : setR es lo hi side = true) : dS c_law st_law_5 (Lv ns dk V es o3 sc lo true hi true sd (Ps side) g) = .nx (Lv ns dk V es o3 sc lo false hi false sd (Ps side) g) := by
  have e := judge_set (V := V) (es := es) true true side (by omega) (by omega) hlo hhi hb hs hsv
  rw [hf] at e
  simp [st_law_5, e]
theorem s4 (xs : List Int) (sd : List (List Nat)) (o3 o6 o7 : Bool) (T : D) (hE : inR V es) (hV : V ≤ 5) (hl : es.length ≤ 7) (hlo : lo.length = es.length) (hhi : hi.length = es.length) (hb : ∀ j, j < es.length → Ff lo j ≤ Ff hi j) (h5 : sc = 1 → ∀ j, j < es.length → Ff hi j - Ff lo j ≤ 1000) : ∃ xs' o3' o6' o7', dS c_law st_law_4 (Lv ns (L xs) V es o3 sc lo o6 hi o7 sd T g) = .nx (Lv ns (L xs') V es o3' sc lo o6' hi o7' sd T g) := by
  by_cases hs : sc = 1
  · obtain ⟨xs', o3', o6', o7', e⟩ := jr_ok hE hV hl hlo hhi hb xs o3 o6 o7 (h5 hs)
    refine ⟨xs', if o3 then o3' else false, if o6 then o6' else false, if o7 then o7' else false, ?_⟩
    subst hs
    cases o3 <;> cases o6 <;> cases o7 <;> simp [st_law_4, e]
  · refine ⟨xs, o3, o6, o7, ?_⟩
    simp [st_law_4, hs]
theorem tail_ok (xs : List Int) (sd : List (List Nat)) (o3 o6 o7 : Bool) (T : D) (hl : es.length ≤ 7) (hlo : lo.length = es.length) (hhi : hi.length = es.length) : ∃ ρ, dSs c_law (.cons st_law_3 (.cons st_law_2 (.cons st_law_1 .nil))) (Lv ns (L xs) V es o3 sc lo o6 hi o7 sd T g) = .ret (.bl true) ρ := by
  obtain ⟨x1, ask, hask, t⟩ := take_ok xs 2 (by omega)
  have t : m_l_law_take [L xs, .int 2] = .ok (.int ask) [L x1, .int 2] := t
  have ha : ask = 0 ∨ ask = 1 := by omega
  obtain ⟨d1, d2, r1⟩ := ref_1 (V := V) (es := es) (lo := lo ++ [0]) (hi := hi) ask ha o7 (by simp; omega)
  obtain ⟨d3, d4, r2⟩ := ref_2 ask ha
  have hi2 := init_ok 1 (.lst true (Ed [(0, 0)])) [(0, 0)] (.inl ⟨_, rfl⟩) (by intro e he; simp at he; subst he; simp) (by simp)
  have r2 : m_l_law_refusal [.int ask, .ins false 0 [0, 1] [.int 1, .tup [.tup [.int 0, .int 0]]], .lst true [.int 1], .lst true [.int 0]] = .ok (.str "bounds") [.int ask, .ins false 0 [0, 1] [.int 1, .tup [.tup [.int 0, .int 0]]], d3, d4] := r2
  have hi2 : m_Graph___init__ [.ins true 0 [] [], .int 1, .lst true [.tup [.int 0, .int 0]]] = .ok .non [.ins true 0 [0, 1] [.int 1, .tup [.tup [.int 0, .int 0]]], .int 1, .lst true [.tup [.int 0, .int 0]]] := hi2
  rw [show I (lo ++ [0]) = I lo ++ [.int 0] from by simp [I]] at r1
  have hll : es.length + 1 ≤ 16777216 := by omega
  have e3 : dS c_law st_law_3 (Lv ns (L xs) V es o3 sc lo o6 hi o7 sd T g) = .nx (Lv ns (L x1) V es o3 sc lo o6 hi o7 sd T (.int ask)) := by
    simp [st_law_3, t]
  have e2 : ∃ d7, dS c_law st_law_2 (Lv ns (L x1) V es o3 sc lo o6 hi o7 sd T (.int ask)) = .nx [.scr ns, L x1, .int V, .lst o3 (Ed es), G V es, .int sc, .lst o6 (I lo), d7, .lst true (sd.map tp), .lst true [.str "bounds", .str "bounds"], .int ask, g, g, g, g] := by
    cases o7
    · exact ⟨_, by simp [st_law_2, r1, r2, hi2, hlo, hll]; rfl⟩
    · exact ⟨_, by simp [st_law_2, r1, r2, hi2, hlo, hll]; rfl⟩
  obtain ⟨d7, e2⟩ := e2
  exact ⟨_, by rw [dSs_cons, e3, seq_nx, dSs_cons, e2, seq_nx]; simp [st_law_1]; rfl⟩
end
theorem exs_abs (es : List (Nat × Nat)) (lo : List Int) (K : Int) (hK : 0 ≤ K) (h : ∀ j, -K ≤ Ff lo j ∧ Ff lo j ≤ K) (w : Nat) : -(K * es.length) ≤ exs es lo w ∧ exs es lo w ≤ K * es.length := by
  have key : ∀ (φ : Nat → Int), (∀ j, -K ≤ φ j ∧ φ j ≤ K) → ∀ n : Nat, -(K * n) ≤ Su φ n ∧ Su φ n ≤ K * n := by
    intro φ hφ n
    induction n with
    | zero => simp [Su]
    | succ n ih =>
      have := hφ n
      have h3 : K * ((n + 1 : Nat) : Int) = K * n + K := by simp [Int.mul_add]
      simp only [Su]
      omega
  exact key _ (fun j => by
    have := h j
    split <;> split <;> omega) _
theorem Su_bound (c : List Int) (K : Int) (h : ∀ j, Ff c j ≤ K) : ∀ n : Nat, Su (Ff c) n ≤ K * n
  | 0 => by simp [Su]
  | n + 1 => by
    have := Su_bound c K h n
    have h2 := h n
    have h3 : K * ((n + 1 : Nat) : Int) = K * n + K := by simp [Int.mul_add]
    simp only [Su]; omega
end k87
namespace k87
open Mp Mq
theorem Ff_out {f : List Int} {j : Nat} (h : ¬ j < f.length) : Ff f j = 0 := by
  simp only [Ff, List.getD]
  rw [List.getElem?_eq_none (by omega)]; rfl
theorem plain : ∀ ns : List Int, ns.length ≤ 63 → ∃ outs, m_law [.scr ns] = .ok (.bl true) outs := by
  intro ns _
  obtain ⟨x16, e16⟩ := s16 ns
  obtain ⟨x15, V, hV1, hV5, e15⟩ := s15 ns x16
  obtain ⟨x14, es, hl, hE, e14⟩ := s14 ns V x15 hV1
  have e13 := s13 ns V es (L x14) hl hE
  obtain ⟨x12, sc, hsc, e12⟩ := s12 ns V x14 (.lst true (Ed es)) (G V es)
  obtain ⟨x11, lo, hlo, hlk, e11⟩ := s11 ns V es x12 (G V es) sc hsc hl
  obtain ⟨x10, hi, hhl, hhk, e10⟩ := s10 ns V es x11 (G V es) sc hsc lo (by omega)
  have hhi : hi.length = es.length := by omega
  have e9 := s9 ns V es (L x10) (G V es) sc lo hi hV5 hl hlo hhi
  have hsc0 : 0 < sc := by rcases hsc with rfl | rfl <;> omega
  have hloF : ∀ j, ∃ k : Int, -4 ≤ k ∧ k ≤ 4 ∧ Ff lo j = k * sc := by
    intro j
    by_cases hj : j < lo.length
    · rw [Ff_at hj]; exact hlk _ (List.getElem_mem hj)
    · exact ⟨0, by omega, by omega, by rw [Ff_out hj]; simp⟩
  have hb : ∀ j, j < es.length → Ff lo j ≤ Ff hi j := by
    intro j hj
    obtain ⟨k, hk, h⟩ := hhk j (by omega)
    rw [h]
    rcases hsc with rfl | rfl <;> omega
  have hcapL : ∀ j, j < es.length → ∃ k : Nat, k < 6 ∧ Ff (capL lo hi) j = k * sc := by
    intro j hj
    obtain ⟨k, hk, h⟩ := hhk j (by omega)
    exact ⟨k, hk, by rw [capL_at hlo hhi j hj, h]; omega⟩
  have hexd : ∀ w, sc ∣ exs es lo w := by
    intro w
    refine Su_dvd sc fun j hj => ?_
    obtain ⟨k, _, _, h⟩ := hloF j
    rw [h]
    refine Int.dvd_sub ?_ ?_ <;> split <;> first | exact Int.dvd_zero _ | exact Int.dvd_mul_left _ _
  have hexb : ∀ w, -(28 * sc) ≤ exs es lo w ∧ exs es lo w ≤ 28 * sc := by
    intro w
    have h := exs_abs es lo (4 * sc) (by omega) (fun j => by
      obtain ⟨k, h1, h2, h⟩ := hloF j
      rw [h]
      rcases hsc with rfl | rfl <;> omega) w
    have h7 : (es.length : Int) ≤ 7 := by omega
    have h8 : 4 * sc * (es.length : Int) ≤ 4 * sc * 7 := Int.mul_le_mul_of_nonneg_left h7 (by omega)
    omega
  have hxm : ∀ j, sc ∣ Ff (xC V (exs es lo) V) j ∧ Ff (xC V (exs es lo) V) j ≤ 28 * sc := by
    intro j
    by_cases hj : j < (xC V (exs es lo) V).length
    · have hm : Ff (xC V (exs es lo) V) j ∈ xC V (exs es lo) V := by rw [Ff_at hj]; exact List.getElem_mem hj
      obtain ⟨y, hy, he⟩ := List.mem_map.1 hm
      obtain ⟨v, hv, ⟨_, rfl⟩ | ⟨_, rfl⟩⟩ := ext_mem V (exs es lo) V y hy
      · rw [← he]; exact ⟨hexd v, (hexb v).2⟩
      · rw [← he]
        refine ⟨Int.dvd_neg.2 (hexd v), ?_⟩
        have := (hexb v).1
        simp only; omega
    · rw [Ff_out hj]; exact ⟨Int.dvd_zero _, by omega⟩
  have hclen : (capL lo hi).length = es.length := by simp [capL]; omega
  have hcm : ∀ j, sc ∣ Ff (CX V es lo hi) j ∧ Ff (CX V es lo hi) j ≤ 28 * sc := by
    intro j
    rw [Ff_app]
    split
    · obtain ⟨k, hk, h⟩ := hcapL j (by omega)
      rw [h]
      refine ⟨Int.dvd_mul_left _ _, ?_⟩
      rcases hsc with rfl | rfl <;> omega
    · exact hxm _
  have hbd : Su (Ff (CX V es lo hi)) (EX V es lo).length < sc * 100000 := by
    have h1 := Su_bound (CX V es lo hi) (28 * sc) (fun j => (hcm j).2) (EX V es lo).length
    have h2 := ext_len V (exs es lo) V
    have h3 : (EX V es lo).length ≤ 12 := by
      have : (xE V (exs es lo) V).length ≤ V := by simpa [xE] using h2
      simp; omega
    have h4 : ((EX V es lo).length : Int) ≤ 12 := by omega
    have h5 : 28 * sc * ((EX V es lo).length : Int) ≤ 28 * sc * 12 := Int.mul_le_mul_of_nonneg_left h4 (by omega)
    omega
  obtain ⟨f, val, cut, outs, hc, Gr⟩ := circ_ok (V := V) hE (by omega) (by omega) hlo hhi hb hsc0 (fun j => (hcm j).1) hbd
  have S := Gr.strm
  have h5 : sc = 1 → ∀ j, j < es.length → Ff hi j - Ff lo j ≤ 1000 := by
    intro h1 j hj
    obtain ⟨k, hk, h⟩ := hcapL j hj
    rw [capL_at hlo hhi j hj] at h
    rw [h, h1]; omega
  have hbody : ∀ ρ, dSs c_law (.cons st_law_8 (.cons st_law_7 (.cons st_law_6 (.cons st_law_5 (.cons st_law_4 (.cons st_law_3 (.cons st_law_2 (.cons st_law_1 .nil)))))))) (Lv ns (L x10) V es true sc lo true hi true (sds V es lo hi) g g) = .ret (.bl true) ρ → ∃ outs, m_law [.scr ns] = .ok (.bl true) outs := by
    intro ρ h
    refine ⟨_, dF_ret (ρ := ρ) rfl ?_⟩
    show dSs c_law (.cons st_law_16 (.cons st_law_15 (.cons st_law_14 (.cons st_law_13 (.cons st_law_12 (.cons st_law_11 (.cons st_law_10 (.cons st_law_9 (.cons st_law_8 (.cons st_law_7 (.cons st_law_6 (.cons st_law_5 (.cons st_law_4 (.cons st_law_3 (.cons st_law_2 (.cons st_law_1 .nil)))))))))))))))) [.scr ns, g, g, g, g, g, g, g, g, g, g, g, g, g, g] = _
    rw [dSs_cons, e16, seq_nx, dSs_cons, e15, seq_nx, dSs_cons, e14, seq_nx, dSs_cons, e13, seq_nx, dSs_cons, e12, seq_nx, dSs_cons, e11, seq_nx, dSs_cons, e10, seq_nx, dSs_cons, e9, seq_nx]
    exact h
  by_cases hv : val = dem (exs es lo) V
  · have hz := hof_flow hE hlo hhi S hv
    have hbn := hof_bnd hE hlo hhi S
    have hal : (addR lo f).length = es.length := by
      have h1 := S.len
      have h2 : (EX V es lo).length = es.length + (xE V (exs es lo) V).length := by simp
      simp [addR]; omega
    have hfB : flowB V es lo hi (addR lo f) = true := by
      unfold flowB
      rw [decide_eq_true hal, decide_eq_true ((bd_nil es.length).2 hbn), decide_eq_true (nz_nil.2 hz)]; rfl
    have hsd : sds V es lo hi = [] := by
      unfold sds
      rw [List.filter_eq_nil_iff]
      intro r _
      unfold setR
      have := hof_easy (V := V) (hi := hi) hE hbn hz fun v => decide (v ∈ r)
      simpa using this
    rw [show circD V es lo f val cut = .tup [.str "flow", .lst true (I (addR lo f))] from if_pos hv] at hc
    have e8 := s8 ns V es lo hi sc (L x10) _ outs (sds V es lo hi) (by simp) (by omega) (by omega) hc
    rw [show fz (.tup [.str "flow", .lst true (I (addR lo f))]) = Pf (addR lo f) from by simp] at e8
    rw [hsd] at e8 hbody
    have e7 := s7f ns V es lo hi sc (L x10) (addR lo f)
    obtain ⟨o3, e6⟩ := s6f ns V es lo hi sc (L x10) (addR lo f) [] hE hV5 hl hlo hhi hfB
    have e5 := s5f ns V es lo hi sc (L x10) (addR lo f) [] o3 hE hV5 hl hlo hhi hb hfB
    obtain ⟨x4, p3, p6, p7, e4⟩ := s4 ns V es lo hi sc x10 [] o3 true true (Pf (addR lo f)) hE hV5 hl hlo hhi hb h5
    obtain ⟨ρ, e3⟩ := tail_ok ns V es lo hi sc x4 [] p3 p6 p7 (Pf (addR lo f)) hl hlo hhi
    refine hbody ρ ?_
    rw [dSs_cons, e8, seq_nx, dSs_cons, e7, seq_nx, dSs_cons, e6, seq_nx, dSs_cons, e5, seq_nx, dSs_cons, e4, seq_nx]
    exact e3
  · have hside := hof_set hE hlo hhi S hv (fun v => decide (v ∈ cut)) (by simpa using Gr.st) (by simpa using Gr.en_) Gr.cap
    have hasc : (cut.filter fun v => decide (v < V)).Pairwise (· < ·) := Gr.asc.filter _
    have hlt : ∀ v ∈ cut.filter fun v => decide (v < V), v < V := by
      intro v hv
      have := (List.mem_filter.1 hv).2
      simpa using this
    have hcg : ∀ j, j < es.length → ((Ee es j).1 ∈ cut.filter (fun v => decide (v < V)) ↔ (Ee es j).1 ∈ cut) ∧ ((Ee es j).2 ∈ cut.filter (fun v => decide (v < V)) ↔ (Ee es j).2 ∈ cut) := by
      intro j hj
      have hm : Ee es j ∈ es := by simp [Ee, List.getD, hj]
      obtain ⟨r1, r2⟩ := hE _ hm
      simp [List.mem_filter, r1, r2]
    have hset : setR es lo hi (cut.filter fun v => decide (v < V)) = true := by
      unfold setR
      have c1 : capa es hi (fun v => decide (v ∈ cut.filter fun v => decide (v < V))) = capa es hi fun v => decide (v ∈ cut) := Su_congr fun j hj => by
        simp only [(hcg j hj).1, (hcg j hj).2]
      have c2 : insm es lo (fun v => decide (v ∈ cut.filter fun v => decide (v < V))) = insm es lo fun v => decide (v ∈ cut) := Su_congr fun j hj => by
        simp only [(hcg j hj).1, (hcg j hj).2]
      rw [c1, c2]
      simpa using hside
    have hin : (cut.filter fun v => decide (v < V)) ∈ sds V es lo hi := mem_sds.2 ⟨⟨hasc, hlt⟩, hset⟩
    have hne : sds V es lo hi ≠ [] := fun z => by rw [z] at hin; simp at hin
    rw [show circD V es lo f val cut = .tup [.str "set", .tup (N (cut.filter fun v => decide (v < V)))] from if_neg hv] at hc
    have e8 := s8 ns V es lo hi sc (L x10) _ outs (sds V es lo hi) (by simp) (by omega) (by omega) hc
    rw [show fz (.tup [.str "set", .tup (N (cut.filter fun v => decide (v < V)))]) = Ps (cut.filter fun v => decide (v < V)) from by simp] at e8
    have e7 := s7s ns V es lo hi sc (L x10) (cut.filter fun v => decide (v < V)) (sds V es lo hi) hne
    have e6 := s6s ns V es lo hi sc (L x10) (cut.filter fun v => decide (v < V)) (sds V es lo hi) hin
    have e5 := s5s ns V es lo hi sc (L x10) (cut.filter fun v => decide (v < V)) (sds V es lo hi) true hE hV5 hl hlo hhi hb hasc hlt hset
    obtain ⟨x4, p3, p6, p7, e4⟩ := s4 ns V es lo hi sc x10 (sds V es lo hi) true false false (Ps (cut.filter fun v => decide (v < V))) hE hV5 hl hlo hhi hb h5
    obtain ⟨ρ, e3⟩ := tail_ok ns V es lo hi sc x4 (sds V es lo hi) p3 p6 p7 (Ps (cut.filter fun v => decide (v < V))) hl hlo hhi
    refine hbody ρ ?_
    rw [dSs_cons, e8, seq_nx, dSs_cons, e7, seq_nx, dSs_cons, e6, seq_nx, dSs_cons, e5, seq_nx, dSs_cons, e4, seq_nx]
    exact e3
end k87
open PySem PySem.W PySem.Calls PyProof.Rows
theorem PySem.Challenge.cw_treework_k87_whole_circulations_holds : PySem.Challenge.rw_treework_k87_whole_circulations.Holds := by
  w_on; o_law
  refine HandSHeadRun.head_any (r := OpenLaw.row PySem.Challenge.rw_treework_k87_whole_circulations) (q := view (OpenLaw.row PySem.Challenge.rw_treework_k87_whole_circulations).prog [31]) (H := k87a.hk) (ob := k87a.ob) (M := 4000) (loose := k87a.names) (d := HandSHeadRun.topDef (OpenLaw.row PySem.Challenge.rw_treework_k87_whole_circulations).prog 31) (kwd := []) k87a.ob_eq
    (by kernel_rfl) (fun s => by kernel_rfl) k87a.run (by kernel_rfl) (by kernel_rfl) (by kernel_rfl) (by rfl) (by first | assumption | decide +kernel) (by decide +kernel) ⟨rfl, rfl, rfl, rfl, rfl, by decide +kernel⟩ ?hw ?hc
  case hw => w_witness2
  case hc =>
    refine Mp.walk_ofX (l := PySem.Challenge.rw_treework_k87_whole_circulations) (n := 63) (k := 64) (x := "script") (m := k87.m_law) (Tf := fun K => Mp.tabOf k87a.nm K k87a.hnd) (fun _ => rfl) rfl (by decide) (by kernel_rfl) ⟨rfl, by decide, by decide⟩ ?F k87.plain
    intro w mg fa h Y G hmg0
    obtain ⟨K, KX, c, e⟩ := Y
    have hmg : mg ("law" : PySem.Str) = some (.ref fa) := by
      have e : (HandSHeadRun.topDef (OpenLaw.row PySem.Challenge.rw_treework_k87_whole_circulations).prog 31).name = ("law" : PySem.Str) := by kernel_rfl
      rw [← e]
      exact hmg0
    have z := k87a.z_of KX G c e
    obtain ⟨fd, F⟩ := z.c.def_ 23 (d := k87a.d_law) rfl
    have ea := hmg.symm.trans (z.M.glo "law" (by decide +kernel))
    cases ea
    have b := L2.FunD.bindsA (ps := ["script"]) F fun _ _ _ _ _ _ us hl => match us, hl with | [_], _ => rfl
    exact ⟨K, fd, KX, fun s v => b s [v] rfl, fun base _ _ => k87a.law_fn z F⟩
