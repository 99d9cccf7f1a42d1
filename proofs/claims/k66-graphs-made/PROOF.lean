import PyProof.Rows.All
import Wide.All
import OpenK.AllK
import Wide.FinOn
import HandS.ForMost
import HandS.More
import HandS.ForExc
import HandS.TupAny
import HandS.TupLe
import HandS.Style
import HandS.Deep
import HandS.Conv
import HandS.IsInst
import HandS.SortInts
import HandS.Strs
import HandS.SetKeys
import HandS.List
import HandS.Rev
import HandS.SetFor
import HandS.TupSets
import HandS.CallSlots
import HandS.ExcCtx
import HandS.HeadWalk
import HandS.Comp
import HandS.ExcInit
import HandS.ExcField
import OpenK.KCls
import HandS.HeadHook2
import HandS.HeadHook4
import HandS.EndBits
import KE.KStateDown
import HandS.Head0
import HandS.Head1
import HandS.Head2
import HandS.HeadEnd
import PySem.Challenge.RW_treework_k66_graphs_made
set_option Elab.async false
set_option linter.all false
set_option maxRecDepth 100000
set_option maxHeartbeats 0
/-! Mini-Python over plain data: data, the intermediate form, its denotation. -/
namespace Mp
open PySem (Str)

/-- plain data. o: the object is owned (it may be changed here); else it stays as it is for ever. gone: nothing is known -/
inductive D where
  | non | bl (b : Bool) | int (i : Int) | str (s : Str)
  | tup (xs : List D)
  | scr (ns : List Int)
  | lst (o : Bool) (xs : List D)
  | dct (o : Bool) (k : Bool) (ks : List D) (vs : List D)
  | ins (o : Bool) (c : Nat) (fs : List Nat) (vs : List D)
  | gone
  deriving Inhabited

mutual
/-- nothing owned, nothing unknown within -/
def sh : D → Bool
  | .non => true | .bl _ => true | .int _ => true | .str _ => true | .scr _ => true
  | .tup xs => shL xs
  | .lst o xs => !o && shL xs
  | .dct o _ ks vs => !o && shL vs
  | .ins o _ _ vs => !o && shL vs
  | .gone => false
def shL : List D → Bool
  | [] => true
  | x :: xs => sh x && shL xs
end
mutual
def fz : D → D
  | .non => .non | .bl b => .bl b | .int i => .int i | .str s => .str s | .scr ns => .scr ns
  | .tup xs => .tup (fzL xs)
  | .lst _ xs => .lst false (fzL xs)
  | .dct _ k ks vs => .dct false k ks (fzL vs)
  | .ins _ c fs vs => .ins false c fs (fzL vs)
  | .gone => .gone
def fzL : List D → List D
  | [] => []
  | x :: xs => fz x :: fzL xs
end
mutual
/-- may be frozen: nothing unknown within -/
def fzable : D → Bool
  | .non => true | .bl _ => true | .int _ => true | .str _ => true | .scr _ => true
  | .tup xs => fzableL xs
  | .lst _ xs => fzableL xs
  | .dct _ _ _ vs => fzableL vs
  | .ins _ _ _ vs => fzableL vs
  | .gone => false
def fzableL : List D → Bool
  | [] => true
  | x :: xs => fzable x && fzableL xs
end
mutual
/-- == of data -/
def eqD : D → D → Bool
  | .non, .non => true
  | .bl a, .bl b => a == b
  | .bl a, .int j => (if a then 1 else 0) == j
  | .int i, .bl b => i == (if b then 1 else 0)
  | .int i, .int j => i == j
  | .str x, .str y => x == y
  | .tup xs, .tup ys => eqL xs ys
  | .lst _ xs, .lst _ ys => eqL xs ys
  | _, _ => false
def eqL : List D → List D → Bool
  | [], [] => true
  | x :: xs, y :: ys => eqD x y && eqL xs ys
  | _, _ => false
end
mutual
/-- data that == serves, of depth below n -/
def okD : Nat → D → Bool
  | _, .non => true | _, .bl _ => true | _, .int _ => true
  | _, .str s => s.cps.all fun c => decide (c < 0x110000)
  | n + 1, .tup xs => okL n xs
  | n + 1, .lst _ xs => okL n xs
  | _, _ => false
def okL : Nat → List D → Bool
  | _, [] => true
  | n, x :: xs => okD n x && okL n xs
end

abbrev Env := List D
inductive R (α : Type) where
  | ok (a : α) | exc (c : Nat) (d : D) (ρ : Env) | stuck
  deriving Inhabited
def R.bind {α β : Type} (r : R α) (f : α → R β) : R β := match r with
  | .ok a => f a
  | .exc c d ρ => .exc c d ρ
  | .stuck => .stuck
def R.calm {α : Type} : R α → R α
  | .ok a => .ok a
  | _ => .stuck
def R.of {α : Type} : Option α → R α
  | some a => .ok a
  | none => .stuck
/-- what a def does: its answer, and what its parameters' objects have become -/
inductive FR where
  | ok (d : D) (outs : List D) | exc (c : Nat) (d : D) | stuck
  deriving Inhabited
abbrev Fn := List D → FR

/-! ### places -/
def kids : D → Option (List D)
  | .lst true xs => some xs
  | .dct true _ _ vs => some vs
  | .ins true _ _ vs => some vs
  | _ => none
def withKids : D → List D → D
  | .lst o _, ys => .lst o ys
  | .dct o k ks _, ys => .dct o k ks ys
  | .ins o c fs _, ys => .ins o c fs ys
  | d, _ => d
def getP : D → List Nat → Option D
  | d, [] => some d
  | d, n :: π => match kids d with
    | some xs => match xs[n]? with
      | some c => getP c π
      | none => none
    | none => none
def setP : D → List Nat → D → D
  | _, [], x => x
  | d, n :: π, x => match kids d with
    | some xs => match xs[n]? with
      | some c => withKids d (xs.set n (setP c π x))
      | none => d
    | none => d
def slot (ρ : Env) (i : Nat) : D := ρ.getD i .gone
def getS (ρ : Env) (i : Nat) (π : List Nat) : Option D := match getP (slot ρ i) π with
  | some .gone => none
  | o => o
def setS (ρ : Env) (i : Nat) (π : List Nat) (x : D) : Env := ρ.set i (setP (slot ρ i) π x)
/-- an operand: a place (read when the operation comes), or a value made on the way -/
inductive OV where
  | pl (i : Nat) (π : List Nat) | tm (d : D)
  deriving Inhabited
/-- what a value made on the way is to those that read it: no part of it is owned -/
def soft (d : D) : Option D := match d with
  | .lst _ xs => match shL xs with
    | true => some d
    | false => match fzableL xs with
      | true => some (.lst false (fzL xs))
      | false => none
  | .tup xs => match shL xs with
    | true => some d
    | false => match fzableL xs with
      | true => some (.tup (fzL xs))
      | false => none
  | .dct _ k ks vs => match shL vs with
    | true => some d
    | false => match fzableL vs with
      | true => some (.dct false k ks (fzL vs))
      | false => none
  | .ins _ c fs vs => match shL vs with
    | true => some d
    | false => match fzableL vs with
      | true => some (.ins false c fs (fzL vs))
      | false => none
  | d => some d
def OV.rd (ρ : Env) : OV → Option D
  | .pl i π => getS ρ i π
  | .tm d => soft d
/-- it stands also behind a change of the slots -/
def OV.firm : OV → Bool
  | .pl _ [] => true
  | .pl _ _ => false
  | .tm _ => true

/-! ### operations -/
def line : Nat := 16777216
def two62 : Int := 4611686018427387904
inductive Op where
  | add | sub | mul | fdiv | mod | pow | shl | shr | band | bor | bxor
  deriving DecidableEq, Inhabited
inductive Cp where
  | eq | ne | lt | le | gt | ge | is_ | isnot | in_ | notin
  deriving DecidableEq, Inhabited
def small64 (i : Int) : Bool := Nat.blt i.natAbs 18446744073709551616
theorem small64_eq (i : Int) : small64 i = (decide (-(18446744073709551616) < i) && decide (i < 18446744073709551616)) := by
  unfold small64
  rw [Bool.eq_iff_iff]
  simp [Nat.blt]
  omega
def binI (op : Op) (i j : Int) : Option D := match op with
  | .add => some (.int (i + j))
  | .sub => some (.int (i - j))
  | .mul => if small64 i || small64 j then some (.int (i * j)) else none
  | .fdiv => if decide (j ≠ 0) && decide (j.natAbs < 1073741824) then some (.int (i.fdiv j)) else none
  | .mod => if decide (j ≠ 0) then some (.int (i.fmod j)) else none
  | .pow => if decide (0 ≤ j) && decide (j ≤ 1000000) && decide (i.natAbs < 18446744073709551616) then some (.int (i ^ j.toNat)) else none
  | .shl => if decide (0 ≤ j) && decide (j ≤ 1000000) && decide (i.natAbs < 18446744073709551616) then some (.int (i * 2 ^ j.toNat)) else none
  | .shr => if decide (0 ≤ j) then some (.int (i / 2 ^ j.toNat)) else none
  | _ => none
def b2i (b : Bool) : Int := if b then 1 else 0
def binD (op : Op) : D → D → Option D
  | .int i, .int j => binI op i j
  | .int i, .bl b => match op with
    | .add => some (.int (i + b2i b))
    | _ => none
  | .lst _ xs, .lst _ ys => match op with
    | .add => if shL xs && shL ys && decide (xs.length + ys.length ≤ line) then some (.lst true (xs ++ ys)) else none
    | _ => none
  | .tup xs, .tup ys => match op with
    | .add => if shL xs && shL ys && decide (xs.length + ys.length ≤ line) then some (.tup (xs ++ ys)) else none
    | _ => none
  | .lst _ xs, .int k => match op with
    | .mul => if shL xs && decide (-two62 ≤ k) && decide (k ≤ two62) && decide (xs.length * k.toNat ≤ line) then some (.lst true (List.replicate k.toNat xs).flatten) else none
    | _ => none
  | .str s, .str t => match op with
    | .add => if decide (s.length + t.length ≤ line) then some (.str (s ++ t)) else none
    | _ => none
  | _, _ => none
mutual
/-- x < y: toInts; tuples of toInts -/
def toInts : List D → Option (List Int)
  | [] => some []
  | .int i :: xs => match toInts xs with
    | some r => some (i :: r)
    | none => none
  | _ :: _ => none
end
def ltI : List Int → List Int → Bool
  | [], [] => false
  | [], _ :: _ => true
  | _ :: _, [] => false
  | a :: as, b :: bs => decide (a < b) || (decide (a = b) && ltI as bs)
def flat : D → Bool
  | .non => true | .bl _ => true | .int _ => true | .str _ => true | _ => false
def okEq (a : D) : Bool := okD 64 a
def memD (x : D) : List D → Bool
  | [] => false
  | y :: ys => eqD y x || memD x ys
def findD (x : D) : List D → Option Nat
  | [] => none
  | y :: ys => if eqD y x then some 0 else (findD x ys).map (· + 1)
def keyOk (k : Bool) : D → Bool
  | .int _ => k
  | .str _ => k
  | .tup xs => !k && xs.all fun x => match x with
    | .int _ => true
    | .str _ => true
    | _ => false
  | _ => false
def cmpD (op : Cp) (x y : D) : Option D := match op with
  | .eq => if okEq x && okEq y then some (.bl (eqD x y)) else none
  | .ne => if okEq x && okEq y then some (.bl (!eqD x y)) else none
  | .lt => match x, y with
    | .int i, .int j => some (.bl (decide (i < j)))
    | .tup xs, .tup ys => match toInts xs, toInts ys with
      | some a, some b => some (.bl (ltI a b))
      | _, _ => none
    | _, _ => none
  | .le => match x, y with
    | .int i, .int j => some (.bl (decide (i ≤ j)))
    | _, _ => none
  | .gt => match x, y with
    | .int i, .int j => some (.bl (decide (j < i)))
    | _, _ => none
  | .ge => match x, y with
    | .int i, .int j => some (.bl (decide (j ≤ i)))
    | _, _ => none
  | .is_ => match x, y with
    | .gone, _ => none
    | .non, .non => some (.bl true)
    | _, .non => some (.bl false)
    | .bl a, .bl b => some (.bl (a == b))
    | .int _, .bl _ => none
    | .str _, .bl _ => none
    | .non, .bl _ => none
    | _, _ => none
  | .isnot => match x, y with
    | .gone, _ => none
    | .non, .non => some (.bl false)
    | _, .non => some (.bl true)
    | .bl a, .bl b => some (.bl (!(a == b)))
    | .int _, .bl _ => none
    | .str _, .bl _ => none
    | .non, .bl _ => none
    | _, _ => none
  | .in_ => match y with
    | .lst _ ys => if okEq x && okL 63 ys then some (.bl (memD x ys)) else none
    | .tup ys => if flat x && ys.all flat then some (.bl (memD x ys)) else none
    | .dct _ k ks _ => if keyOk k x then some (.bl (memD x ks)) else none
    | _ => none
  | .notin => match y with
    | .lst _ ys => if okEq x && okL 63 ys then some (.bl (!memD x ys)) else none
    | .tup ys => if flat x && ys.all flat then some (.bl (!memD x ys)) else none
    | .dct _ k ks _ => if keyOk k x then some (.bl (!memD x ks)) else none
    | _ => none
/-- truth -/
def truth : D → Option Bool
  | .non => some false
  | .bl b => some b
  | .int i => some (i != 0)
  | .str s => if decide (s.length ≤ line) then some (s.length != 0) else none
  | .tup xs => some (!xs.isEmpty)
  | .lst _ xs => some (!xs.isEmpty)
  | .dct _ _ ks _ => some (!ks.isEmpty)
  | _ => none
/-- the place of the index i in n items -/
def place (i : Int) (n : Nat) : Option Nat :=
  if 0 ≤ i then (if i < n then some i.toNat else none) else (if 0 ≤ i + n then some (i + n).toNat else none)
def itemN (d i : D) : Option Nat := match d, i with
  | .lst _ xs, .int n => place n xs.length
  | .tup xs, .int n => place n xs.length
  | .scr xs, .int n => place n xs.length
  | .dct _ k ks _, x => if keyOk k x then findD x ks else none
  | _, _ => none
def kidsAny : D → List D
  | .tup xs => xs
  | .scr ns => ns.map D.int
  | .lst _ xs => xs
  | .dct _ _ _ vs => vs
  | .ins _ _ _ vs => vs
  | _ => []
def itemD (d i : D) : Option D := match itemN d i with
  | some n => match (kidsAny d)[n]? with
    | some c => if sh c then some c else none
    | none => none
  | none => none
/-- a slice's part: from a up to b of n items, step 1 -/
def clampI (i : Int) (n : Nat) : Nat := if i < 0 then (i + n).toNat else min i.toNat n
def cut (xs : List D) (a b : Option Int) : List D :=
  let lo := (a.map fun i => clampI i xs.length).getD 0
  let hi := (b.map fun i => clampI i xs.length).getD xs.length
  (xs.take hi).drop lo
def cutD (d : D) (a b : Option Int) : Option D := match d with
  | .lst _ xs => if shL xs then some (.lst true (cut xs a b)) else none
  | .tup xs => if shL xs then some (.tup (cut xs a b)) else none
  | _ => none
def revD : D → Option D
  | .lst _ xs => if shL xs then some (.lst true xs.reverse) else none
  | .tup xs => if shL xs then some (.tup xs.reverse) else none
  | _ => none
def insI (x : Int) : List Int → List Int
  | [] => [x]
  | y :: ys => if x ≤ y then x :: y :: ys else y :: insI x ys
def sortI : List Int → List Int
  | [] => []
  | x :: xs => insI x (sortI xs)
def insT (x : List Int) : List (List Int) → List (List Int)
  | [] => [x]
  | y :: ys => if ltI y x then y :: insT x ys else x :: y :: ys
def sortT : List (List Int) → List (List Int)
  | [] => []
  | x :: xs => insT x (sortT xs)
def tupsI : List D → Option (List (List Int))
  | [] => some []
  | .tup t :: xs => match toInts t, tupsI xs with
    | some a, some r => some (a :: r)
    | _, _ => none
  | _ :: _ => none
def encT (a : List Int) : D := .tup (a.map D.int)
def dedI : List Int → List Int
  | [] => []
  | x :: xs => if xs.contains x then dedI xs else x :: dedI xs
def dedT : List (List Int) → List (List Int)
  | [] => []
  | x :: xs => if xs.contains x then dedT xs else x :: dedT xs
def sortD (xs : List D) : Option D := match toInts xs with
  | some a => some (.lst true ((sortI a).map D.int))
  | none => match tupsI xs with
    | some a => some (.lst true ((sortT a).map encT))
    | none => none
def seqOf : D → Option (List D)
  | .lst _ xs => some xs
  | .tup xs => some xs
  | _ => none
def maxI : Int → List Int → Int
  | m, [] => m
  | m, x :: xs => maxI (if x > m then x else m) xs
def minI : Int → List Int → Int
  | m, [] => m
  | m, x :: xs => minI (if x < m then x else m) xs
def bools : List D → Option (List Bool)
  | [] => some []
  | .bl b :: xs => match bools xs with
    | some r => some (b :: r)
    | none => none
  | _ :: _ => none
inductive Ty where
  | int | bool | str | list | tuple | dict | cls (c : Nat)
  deriving DecidableEq, Inhabited
def tyD : D → Option Ty
  | .bl _ => some .bool | .int _ => some .int | .str _ => some .str | .tup _ => some .tuple | .lst _ _ => some .list | .dct _ _ _ _ => some .dict
  | _ => none
def tyEq : Ty → Ty → Bool
  | .int, .int => true | .bool, .bool => true | .bool, .int => true | .str, .str => true | .list, .list => true | .tuple, .tuple => true | .dict, .dict => true
  | _, _ => false
def isTy (d : D) (t : Ty) : Option Bool := match t with
  | .cls _ => none
  | t => match d with
    | .non => some false
    | d => (tyD d).map fun u => tyEq u t
/-- built-ins of operands that are only read -/
inductive Bl where
  | len | abs | int | bool | min1 | max1 | min2 | max2 | sum | list | tuple | sorted | any | all
  | lenset | sortedset | isinst (t : Ty) | isinst2 (t u : Ty) | count | index | get1 | get2 | divmod | dict
  deriving DecidableEq, Inhabited
def blD (b : Bl) (args : List D) : Option D := match b, args with
  | .len, [d] => match d with
    | .lst _ xs => some (.int xs.length)
    | .tup xs => some (.int xs.length)
    | .scr xs => some (.int xs.length)
    | .dct _ _ ks _ => some (.int ks.length)
    | .str s => if s.length ≤ line then some (.int s.length) else none
    | _ => none
  | .abs, [.int i] => some (.int (if i < 0 then -i else i))
  | .int, [.int i] => some (.int i)
  | .int, [.bl b] => some (.int (b2i b))
  | .bool, [.int i] => some (.bl (i != 0))
  | .bool, [.bl b] => some (.bl b)
  | .min2, [.int i, .int j] => some (.int (if j < i then j else i))
  | .max2, [.int i, .int j] => some (.int (if j > i then j else i))
  | .min1, [d] => match seqOf d with
    | some xs => match toInts xs with
      | some (x :: r) => some (.int (minI x r))
      | _ => none
    | none => none
  | .max1, [d] => match seqOf d with
    | some xs => match toInts xs with
      | some (x :: r) => some (.int (maxI x r))
      | _ => none
    | none => none
  | .sum, [.lst _ xs] => match toInts xs with
    | some a => some (.int a.sum)
    | none => none
  | .any, [.lst _ xs] => match bools xs with
    | some a => some (.bl (a.any id))
    | none => none
  | .all, [.lst _ xs] => match bools xs with
    | some a => some (.bl (a.all id))
    | none => none
  | .list, [d] => match d with
    | .dct _ _ ks _ => some (.lst true ks)
    | _ => match seqOf d with
      | some xs => if shL xs then some (.lst true xs) else none
      | none => none
  | .tuple, [d] => match seqOf d with
    | some xs => if shL xs then some (.tup xs) else none
    | none => none
  | .sorted, [.lst _ xs] => match toInts xs with
    | some a => some (.lst true ((sortI a).map D.int))
    | none => none
  | .sorted, [.dct _ _ ks _] => match toInts ks with
    | some a => if decide (a.length < 64) then some (.lst true ((sortI a).map D.int)) else none
    | none => none
  | .lenset, [.lst _ xs] => match toInts xs with
    | some a => if decide (a.length < 1000) then some (.int (dedI a).length) else none
    | none => none
  | .sortedset, [.lst _ xs] => match toInts xs with
    | some a => if decide (a.length < 60) then some (.lst true ((sortI (dedI a)).map D.int)) else none
    | none => none
  | .isinst t, [d] => ((isTy d t).map D.bl)
  | .isinst2 t u, [d] => match isTy d t, isTy d u with
    | some a, some b => some (.bl (a || b))
    | _, _ => none
  | .count, [d, x] => match seqOf d with
    | some xs => if okEq x && okL 63 xs then some (.int ((xs.filter fun y => eqD x y).length)) else none
    | none => none
  | .index, [d, x] => match seqOf d with
    | some xs => if okEq x && okL 63 xs then ((findD x xs).map fun n => D.int n) else none
    | none => none
  | .get1, [.dct _ k ks vs, x] => if keyOk k x then (match findD x ks with
      | some n => match vs[n]? with
        | some c => if sh c then some c else none
        | none => none
      | none => some .non) else none
  | .get2, [.dct _ k ks vs, x, y] => if keyOk k x && sh y then (match findD x ks with
      | some n => match vs[n]? with
        | some c => if sh c then some c else none
        | none => none
      | none => some y) else none
  | .divmod, [.int i, .int j] => if decide (0 < j) && decide (j < 1073741824) then some (.tup [.int (i / j), .int (i % j)]) else none
  | .dict, [d] => match d with
    | .dct _ k ks vs => if shL vs then some (.dct true k ks vs) else none
    | _ => none
  | _, _ => none

/-- in-place operations at a place; the answer, what the object becomes -/
inductive Bm where
  | append | pop0 | pop1 | extend | insert | remove | reverse | sort | clear | setdef | dpop2
  deriving DecidableEq, Inhabited
/-- what the object is: a list, a dict -/
def bmTy : D → Option Bool
  | .lst true _ => some true
  | .dct true true _ _ => some false
  | _ => none
def bmFor : Bm → Bool
  | .setdef => false
  | .dpop2 => false
  | _ => true
def bmD (m : Bm) (d : D) (args : List D) : Option (D × D) := match m, d, args with
  | .append, .lst true xs, [x] => if decide (xs.length < line) then some (.non, .lst true (xs ++ [x])) else none
  | .pop0, .lst true xs, [] => match xs[xs.length - 1]? with
    | some x => some (x, .lst true xs.dropLast)
    | none => none
  | .pop1, .lst true xs, [.int i] => match place i xs.length with
    | some n => match xs[n]? with
      | some x => some (x, .lst true (xs.eraseIdx n))
      | none => none
    | none => none
  | .extend, .lst true xs, [e] => match seqOf e with
    | some ys => if shL ys && decide (xs.length + ys.length ≤ line) then some (.non, .lst true (xs ++ ys)) else none
    | none => none
  | .insert, .lst true xs, [.int i, x] => if decide (xs.length < line) && decide (0 ≤ i) && decide (i < 2 ^ 62) then some (.non, .lst true (xs.take i.toNat ++ x :: xs.drop i.toNat)) else none
  | .remove, .lst true xs, [x] => if okEq x && okL 63 xs then (match findD x xs with
      | some n => some (.non, .lst true (xs.eraseIdx n))
      | none => none) else none
  | .reverse, .lst true xs, [] => some (.non, .lst true xs.reverse)
  | .sort, .lst true xs, [] => match sortD xs with
    | some (.lst _ ys) => some (.non, .lst true ys)
    | _ => none
  | .clear, .lst true _, [] => some (.non, .lst true [])
  | .setdef, .dct true k ks vs, [x, y] => if keyOk k x then (match findD x ks with
      | some _ => if decide (ks.length < line) then some (.gone, .dct true k ks vs) else none
      | none => if decide (ks.length < line) then some (.gone, .dct true k (ks ++ [x]) (vs ++ [y])) else none) else none
  | _, _, _ => none
/-- d[k] = x -/
def putD (d k x : D) : Option D := match d with
  | .lst true xs => match k with
    | .int i => match place i xs.length with
      | some n => some (.lst true (xs.set n x))
      | none => none
    | _ => none
  | .dct true b ks vs => if keyOk b k then (match findD k ks with
      | some n => if decide (ks.length < line) then some (.dct true b ks (vs.set n x)) else none
      | none => if decide (ks.length < line) then some (.dct true b (ks ++ [k]) (vs ++ [x])) else none) else none
  | _ => none
def fldN (f : Nat) : List Nat → Option Nat
  | [] => none
  | g :: r => if g = f then some 0 else (fldN f r).map (· + 1)
def putF (d : D) (f : Nat) (x : D) : Option D := match d with
  | .ins true c fs vs => match fldN f fs with
    | some n => if decide (fs.length < 900) then some (.ins true c fs (vs.set n x)) else none
    | none => if decide (fs.length < 900) then some (.ins true c (fs ++ [f]) (vs ++ [x])) else none
  | _ => none

/-! ### the intermediate form -/
mutual
inductive Tg where
  | var (i : Nat) | tup (ts : Tgs)
inductive Tgs where
  | nil | cons (t : Tg) (ts : Tgs)
end
mutual
inductive P where
  | var (i : Nat) | fld (p : P) (f : Nat) | ix (p : P) (e : E)
inductive O where
  | pl (p : P) | tm (e : E)
inductive Os where
  | nil | cons (o : O) (os : Os)
inductive Es where
  | nil | cons (e : E) (es : Es)
inductive T where
  | tr (o : O) | cmp (op : Cp) (a b : O) | chain (op op2 : Cp) (a b c : O) | and (a b : T) | or (a b : T) | not (a : T)
inductive E where
  | non | bl (b : Bool) | int (i : Int) | str (s : Str) | glob (k : Nat)
  | rd (p : P) | mv (i : Nat)
  | bin (op : Op) (a b : O)
  | neg (a : O) | inv (a : O)
  | cmp (op : Cp) (a b : O)
  | chain (op op2 : Cp) (a b c : O)
  | andv (a b : E) | orv (a b : E) | notv (a : O)
  | ife (t : T) (a b : E)
  | sub (a i : O)
  | slc (a : O) (lo hi : Es) (k : Nat)
  | rev (a : O)
  | lst (es : Es) | tup (es : Es) | dnew (k : Bool)
  | blt (b : Bl) (os : Os)
  | call (f : Nat) (os : Os)
  | make (f c : Nat) (fz : Bool) (os : Os)
  | meth (f c : Nat) (a : O) (os : Os)
  | bm (m : Bm) (p : P) (es : Es)
  | fldv (a : O) (f : Nat)
  | rng (os : Os)
  | lc (it : I) (tg : Tg) (own : List Nat) (cs : Cs) (elt : E)
  | lc2 (it : I) (tg : Tg) (own : List Nat) (cs : Cs) (it2 : I) (tg2 : Tg) (own2 : List Nat) (cs2 : Cs) (elt : E)
  | dc (k : Bool) (it : I) (tg : Tg) (own : List Nat) (cs : Cs) (ke ve : E)
inductive Cs where
  | nil | one (t : T)
inductive I where
  | seq (o : O) | lock (i : Nat) | rng1 (a : O) | rng2 (a b : O) | rng3 (a b c : O) | enum (o : O) | zip (a b : O) | items (o : O) | keys (o : O) | vals (o : O) | revs (o : O)
end
/-- what an except suite says: the error's field, constants, tuples of these; whether the field is a text -/
inductive Xe where
  | what | str (s : Str) | bl (b : Bool) | pair (a b : Xe) | eqs (s : Str) | isx (c : Nat)
inductive Xt where
  | isx (c : Nat) | and (a b : Xt) | not (a : Xt)
inductive Xs where
  | ret (e : Xe) | app (i : Nat) (e : Xe) | iff (t : Xt) (e : Xe) (r : Xs) | pass
mutual
inductive S where
  | asg (t : Tg) (e : E)
  | par (i j : Nat) (a b : E)
  | sfld (p : P) (f : Nat) (e : E)
  | six (p : P) (i : E) (e : E)
  | aug (i : Nat) (op : Op) (e : E)
  | augix (p : P) (i : E) (op : Op) (e : E)
  | augfld (p : P) (f : Nat) (op : Op) (e : E)
  | ex (e : E)
  | iff (t : T) (a b : Ss)
  | for_ (it : I) (tg : Tg) (body : Ss)
  | whl (t : T) (body : Ss)
  | ret (e : E) | retN
  | rs (c : Nat) (es : Es)
  | try_ (body : Ss) (hs : Hs)
  | brk | cnt | pass | never
inductive Ss where
  | nil | cons (s : S) (ss : Ss)
inductive Hs where
  | nil | cons (c : Nat) (i : Option Nat) (suite : Xs) (hs : Hs)
end

/-! ### the denotation -/
def bindT : Tg → D → Env → Option Env
  | .var i, d, ρ => some (ρ.set i d)
  | .tup ts, d, ρ => match d with
    | .tup xs => bindTs ts xs ρ
    | _ => none
where bindTs : Tgs → List D → Env → Option Env
  | .nil, [], ρ => some ρ
  | .cons t ts, x :: xs, ρ => match bindT t x ρ with
    | some ρ' => bindTs ts xs ρ'
    | none => none
  | _, _, _ => none

def Tgs.len : Tgs → Nat
  | .nil => 0
  | .cons _ ts => ts.len + 1
/-- what the denotation leans on: the defs; the module's constants; the fuel of a while -/
structure Cfg where
  fn : Nat → Fn
  gl : Nat → D
  sub : Nat → Nat → Bool
  fuel : Nat

/-- an expression's answer: a value, the slots where they have changed -/
abbrev RE := R (D × Option Env)
def now (ρ : Env) (o : Option Env) : Env := o.getD ρ
def orE (o2 o1 : Option Env) : Option Env := match o2 with
  | some ρ => some ρ
  | none => o1
/-- read, and keep -/
def keep (ρ : Env) (i : Nat) (π : List Nat) : RE := match getS ρ i π with
  | none => .stuck
  | some d => match sh d with
    | true => .ok (d, none)
    | false => match fzable d with
      | true => .ok (fz d, some (setS ρ i π (fz d)))
      | false => .stuck
def ofO (r : Option D) (o : Option Env) : RE := match r with
  | some d => .ok (d, o)
  | none => .stuck
def op2 (f : D → D → Option D) (a b : OV) (o1 o2 : Option Env) (ρ : Env) : RE :=
  match a.firm || o2.isNone with
  | false => .stuck
  | true => match a.rd (now (now ρ o1) o2), b.rd (now (now ρ o1) o2) with
    | some x, some y => ofO (f x y) (orE o2 o1)
    | _, _ => .stuck
def op1 (f : D → Option D) (a : OV) (o : Option Env) (ρ : Env) : RE := match a.rd (now ρ o) with
  | some x => ofO (f x) o
  | none => .stuck
/-- a slice's part -/
def optI : List D → Option (Option Int)
  | [] => some none
  | [.int i] => some (some i)
  | _ => none
/-- the middle of a chain: a scalar -/
def midD (a : OV) (ρ : Env) : R D := match a.rd ρ with
  | some y => match flat y with
    | true => .ok y
    | false => .stuck
  | none => .stuck
/-- an operand of a call is handed over: the value, the slot that is lent, the slots meanwhile -/
def takeV (ρ : Env) : OV → Option (D × Option Nat × Option Env)
  | .tm d => some (d, none, none)
  | .pl i π => match getS ρ i π with
    | none => none
    | some d => match sh d with
      | true => some (d, none, none)
      | false => match π with
        | [] => some (d, some i, some (ρ.set i .gone))
        | _ => none
def takeL : List OV → Env → Option (List D × List (Option Nat) × Option Env)
  | [], _ => some ([], [], none)
  | a :: as, ρ => match takeV ρ a with
    | none => none
    | some (d, b, o1) => match takeL as (now ρ o1) with
      | none => none
      | some (ds, bs, o2) => some (d :: ds, b :: bs, orE o2 o1)
/-- behind the call: what the lent objects have become -/
def giveL : List (Option Nat) → List D → Env → Env
  | some i :: bs, x :: xs, ρ => giveL bs xs (ρ.set i x)
  | none :: bs, _ :: xs, ρ => giveL bs xs ρ
  | _, _, ρ => ρ
def given (bs : List (Option Nat)) (outs : List D) (ρ : Env) (o : Option Env) : Option Env := match bs.any (·.isSome) with
  | true => some (giveL bs outs ρ)
  | false => o
def rdL (ρ : Env) : List OV → Option (List D)
  | [] => some []
  | a :: as => match a.rd ρ, rdL ρ as with
    | some d, some ds => some (d :: ds)
    | _, _ => none
def runF (f : Fn) (as : List OV) (ρ : Env) (o : Option Env) : RE :=
  match takeL as ρ with
  | none => .stuck
  | some (ds, bs, o1) => match f ds with
    | .ok d outs => .ok (d, given bs outs (now ρ o1) (orE o1 o))
    | .exc c d => .exc c d (now ρ o1)
    | .stuck => .stuck
def rngL (lo : Int) (n : Nat) : List D := match n with
  | 0 => []
  | n + 1 => .int lo :: rngL (lo + 1) n
def rngC (lo c : Int) (n : Nat) : List D := match n with
  | 0 => []
  | n + 1 => .int lo :: rngC (lo + c) c n
/-- -2^62 ≤ i < 2^62, told so that the kernel gets stuck soon -/
def okR : Int → Bool
  | .ofNat n => Nat.blt n 4611686018427387904
  | .negSucc n => Nat.blt n 4611686018427387904
theorem okR_eq (i : Int) : okR i = (decide (-two62 ≤ i) && decide (i < two62)) := by
  unfold two62
  cases i with
  | ofNat n =>
    simp only [okR]
    rw [Bool.eq_iff_iff]
    simp [Nat.blt]
    omega
  | negSucc n =>
    simp only [okR]
    rw [Bool.eq_iff_iff]
    simp [Nat.blt]
    omega
def rngCount (i j c : Int) : Nat := if 0 < c then ((j - i + c - 1).fdiv c).toNat else ((i - j + (-c) - 1).fdiv (-c)).toNat
def rngD : List D → Option (List D)
  | [.int j] => if okR j then some (rngL 0 j.toNat) else none
  | [.int i, .int j] => if okR i && okR j then some (rngL i (j - i).toNat) else none
  | [.int i, .int j, .int c] => if okR i && okR j && decide (c ≠ 0) && decide (c.natAbs < 1000000) then some (rngC i c (rngCount i j c)) else none
  | _ => none
def enumL : Int → List D → List D
  | _, [] => []
  | n, x :: xs => .tup [.int n, x] :: enumL (n + 1) xs
def zipL : List D → List D → List D
  | x :: xs, y :: ys => .tup [x, y] :: zipL xs ys
  | _, _ => []
def wipe (own : List Nat) (ρ : Env) : Env := match own with
  | [] => ρ
  | i :: r => (wipe r ρ).set i .gone
/-- the own slots as they were in ρ0 -/
def unwipe (own : List Nat) (ρ0 ρ : Env) : Env := match own with
  | [] => ρ
  | i :: r => unwipe r ρ0 (ρ.set i (slot ρ0 i))
def ownOk (own : List Nat) (ρ : Env) : Bool := own.all fun i => match slot ρ i with
  | .gone => true
  | d => sh d
/-- keep an operand's value -/
def keepO (ρ : Env) (o : Option Env) : OV → RE
  | .tm d => match soft d with
    | some d => .ok (d, o)
    | none => .stuck
  | .pl i π => (keep (now ρ o) i π).bind fun (d, o2) => .ok (d, orE o2 o)
/-- a comprehension's turns from the slots ρ (its own ones unknown): the list that is made; the slots where they have changed -/
def compL (turn : D → Env → R (List D × Option Env)) : List D → Env → Option Env → R (List D × Option Env)
  | [], _, o => .ok ([], o)
  | x :: xs, ρ, o => (turn x (now ρ o)).calm.bind fun (y, o1) => (compL turn xs ρ (orE o1 o)).bind fun (ys, o2) => .ok (y ++ ys, o2)
/-- the slots that a turn hands on: its own ones unknown again -/
def back (own : List Nat) (o : Option Env) : Option Env := o.map (wipe own)
def dputs (k : Bool) : List D → List D → D → Option D
  | x :: xs, y :: ys, d => match putD d x y with
    | some d' => dputs k xs ys d'
    | none => none
  | _, _, d => some d
def evens : List D → List D
  | x :: _ :: r => x :: evens r
  | _ => []
def odds : List D → List D
  | _ :: y :: r => y :: odds r
  | _ => []

/-- the slot that is walked is out of reach meanwhile -/
def lockI : I → Env → Env
  | .lock i, ρ => ρ.set i .gone
  | _, ρ => ρ
def unlockI : I → Env → Env → Env
  | .lock i, ρ0, ρ => ρ.set i (slot ρ0 i)
  | _, _, ρ => ρ
/-- the slots behind a comprehension -/
def compO (it : I) (own : List Nat) (ρ1 : Env) (o : Option Env) : Option Env → Option Env
  | none => o
  | some r => some (unlockI it ρ1 (unwipe own (lockI it ρ1) r))
def fldS (f : Nat) (d : D) : Option D := match d with
  | .ins _ _ fs vs => match fldN f fs with
    | none => none
    | some n => match vs[n]? with
      | some c => if sh c then some c else none
      | none => none
  | _ => none
def negD : D → Option D
  | .int i => some (.int (-i))
  | _ => none
def invD : D → Option D
  | .int i => some (.int (-i - 1))
  | _ => none
def notD (d : D) : Option D := (truth d).map fun b => .bl (!b)
mutual
/-- a place: the slot and the path | a value on the way (a part of what is not owned) -/
def dP (C : Cfg) : P → Env → R (OV × Option Env)
  | .var i, ρ => match slot ρ i with
    | .gone => .stuck
    | _ => .ok (.pl i [], none)
  | .fld p f, ρ => (dP C p ρ).bind fun (a, o) => match a.rd (now ρ o) with
    | none => .stuck
    | some d => match d with
      | .ins _ _ fs vs => match fldN f fs with
        | none => .stuck
        | some n => match vs[n]? with
          | none => .stuck
          | some c => match sh c with
            | true => .ok (.tm c, o)
            | false => match a, kids d with
              | .pl i π, some _ => .ok (.pl i (π ++ [n]), o)
              | _, _ => .stuck
      | _ => .stuck
  | .ix p e, ρ => (dP C p ρ).bind fun (a, o) => (dE C e (now ρ o)).bind fun (k, o2) => match a.firm || o2.isNone with
    | false => .stuck
    | true => match a.rd (now (now ρ o) o2) with
      | none => .stuck
      | some d => match itemN d k with
        | none => .stuck
        | some n => match (kidsAny d)[n]? with
          | none => .stuck
          | some c => match sh c with
            | true => .ok (.tm c, orE o2 o)
            | false => match a, kids d with
              | .pl i π, some _ => .ok (.pl i (π ++ [n]), orE o2 o)
              | _, _ => .stuck
def dO (C : Cfg) : O → Env → R (OV × Option Env)
  | .pl p, ρ => dP C p ρ
  | .tm e, ρ => (dE C e ρ).bind fun (d, o) => .ok (.tm d, o)
def dOs (C : Cfg) : Os → Env → R (List OV × Option Env)
  | .nil, _ => .ok ([], none)
  | .cons a as, ρ => (dO C a ρ).bind fun (x, o) => (dOs C as (now ρ o)).bind fun (xs, o2) => match x.firm || o2.isNone with
    | false => .stuck
    | true => .ok (x :: xs, orE o2 o)
def dEs (C : Cfg) : Es → Env → R (List D × Option Env)
  | .nil, _ => .ok ([], none)
  | .cons e es, ρ => (dE C e ρ).bind fun (x, o) => (dEs C es (now ρ o)).bind fun (xs, o2) => .ok (x :: xs, orE o2 o)
def dT (C : Cfg) : T → Env → R (Bool × Option Env)
  | .tr a, ρ => (dO C a ρ).bind fun (x, o) => match x.rd (now ρ o) with
    | none => .stuck
    | some d => match truth d with
      | some b => .ok (b, o)
      | none => .stuck
  | .cmp op a b, ρ => (dO C a ρ).bind fun (x, o1) => (dO C b (now ρ o1)).bind fun (y, o2) => (op2 (cmpD op) x y o1 o2 ρ).bind fun (d, o) => match d with
    | .bl b => .ok (b, o)
    | _ => .stuck
  | .chain op op' a b c, ρ => (dO C a ρ).bind fun (x, o1) => (dO C b (now ρ o1)).bind fun (y, o2) => (midD y (now (now ρ o1) o2)).bind fun y' => (op2 (cmpD op) x y o1 o2 ρ).bind fun (d, o) => match d with
    | .bl false => .ok (false, o)
    | .bl true => (dO C c (now ρ o)).bind fun (z, o3) => (op2 (cmpD op') (.tm y') z o o3 ρ).bind fun (d', o') => match d' with
      | .bl b => .ok (b, o')
      | _ => .stuck
    | _ => .stuck
  | .and a b, ρ => (dT C a ρ).bind fun (x, o) => match x with
    | false => .ok (false, o)
    | true => (dT C b (now ρ o)).bind fun (y, o2) => .ok (y, orE o2 o)
  | .or a b, ρ => (dT C a ρ).bind fun (x, o) => match x with
    | true => .ok (true, o)
    | false => (dT C b (now ρ o)).bind fun (y, o2) => .ok (y, orE o2 o)
  | .not a, ρ => (dT C a ρ).bind fun (x, o) => .ok (!x, o)
def dE (C : Cfg) : E → Env → RE
  | .non, _ => .ok (.non, none)
  | .bl b, _ => .ok (.bl b, none)
  | .int i, _ => .ok (.int i, none)
  | .str s, _ => .ok (.str s, none)
  | .glob k, _ => .ok (C.gl k, none)
  | .rd p, ρ => (dP C p ρ).bind fun (a, o) => match a with
    | .tm d => .ok (d, o)
    | .pl i π => (keep (now ρ o) i π).bind fun (d, o2) => .ok (d, orE o2 o)
  | .mv i, ρ => match slot ρ i with
    | .gone => .stuck
    | d => match sh d with
      | true => .ok (d, none)
      | false => .ok (d, some (ρ.set i .gone))
  | .bin op a b, ρ => (dO C a ρ).bind fun (x, o1) => (dO C b (now ρ o1)).bind fun (y, o2) => op2 (binD op) x y o1 o2 ρ
  | .neg a, ρ => (dO C a ρ).bind fun (x, o) => op1 negD x o ρ
  | .inv a, ρ => (dO C a ρ).bind fun (x, o) => op1 invD x o ρ
  | .cmp op a b, ρ => (dO C a ρ).bind fun (x, o1) => (dO C b (now ρ o1)).bind fun (y, o2) => op2 (cmpD op) x y o1 o2 ρ
  | .chain op op' a b c, ρ => (dO C a ρ).bind fun (x, o1) => (dO C b (now ρ o1)).bind fun (y, o2) => (midD y (now (now ρ o1) o2)).bind fun y' => (op2 (cmpD op) x y o1 o2 ρ).bind fun (d, o) => match d with
    | .bl false => .ok (.bl false, o)
    | .bl true => (dO C c (now ρ o)).bind fun (z, o3) => (op2 (cmpD op') (.tm y') z o o3 ρ).bind fun (d', o') => .ok (d', o')
    | _ => .stuck
  | .andv a b, ρ => (dE C a ρ).bind fun (x, o) => match x with
    | .bl false => .ok (.bl false, o)
    | .bl true => (dE C b (now ρ o)).bind fun (y, o2) => .ok (y, orE o2 o)
    | _ => .stuck
  | .orv a b, ρ => (dE C a ρ).bind fun (x, o) => match x with
    | .bl true => .ok (.bl true, o)
    | .bl false => (dE C b (now ρ o)).bind fun (y, o2) => .ok (y, orE o2 o)
    | _ => .stuck
  | .notv a, ρ => (dO C a ρ).bind fun (x, o) => op1 notD x o ρ
  | .ife t a b, ρ => (dT C t ρ).bind fun (x, o) => match x with
    | true => (dE C a (now ρ o)).bind fun (y, o2) => .ok (y, orE o2 o)
    | false => (dE C b (now ρ o)).bind fun (y, o2) => .ok (y, orE o2 o)
  | .sub a i, ρ => (dO C a ρ).bind fun (x, o1) => (dO C i (now ρ o1)).bind fun (y, o2) => op2 itemD x y o1 o2 ρ
  | .slc a lo hi k, ρ => (dO C a ρ).bind fun (x, o1) => (dEs C lo (now ρ o1)).bind fun (l, o2) => match optI l with
    | none => .stuck
    | some l => (dEs C hi (now (now ρ o1) o2)).bind fun (h, o3) => match optI h with
      | none => .stuck
      | some h => match x.firm || (o2.isNone && o3.isNone) with
        | false => .stuck
        | true => match x.rd (now (now (now ρ o1) o2) o3) with
          | none => .stuck
          | some d => ofO (cutD d l h) (orE o3 (orE o2 o1))
  | .rev a, ρ => (dO C a ρ).bind fun (x, o) => op1 revD x o ρ
  | .lst es, ρ => (dEs C es ρ).bind fun (xs, o) => if xs.length ≤ line then .ok (.lst true xs, o) else .stuck
  | .tup es, ρ => (dEs C es ρ).bind fun (xs, o) => if xs.length ≤ line then .ok (.tup xs, o) else .stuck
  | .dnew k, _ => .ok (.dct true k [] [], none)
  | .blt b os, ρ => (dOs C os ρ).bind fun (xs, o) => match rdL (now ρ o) xs with
    | none => .stuck
    | some ds => ofO (blD b ds) o
  | .call f os, ρ => (dOs C os ρ).bind fun (xs, o) => runF (C.fn f) xs (now ρ o) o
  | .make f c z os, ρ => (dOs C os ρ).bind fun (xs, o) => match takeL xs (now ρ o) with
    | none => .stuck
    | some (ds, bs, o1) => match C.fn f (.ins true c [] [] :: ds) with
      | .ok .non (x :: outs) => match z with
        | true => match fzable x with
          | true => .ok (fz x, given bs outs (now (now ρ o) o1) (orE o1 o))
          | false => .stuck
        | false => .ok (x, given bs outs (now (now ρ o) o1) (orE o1 o))
      | .ok _ _ => .stuck
      | .exc c d => .exc c d (now (now ρ o) o1)
      | .stuck => .stuck
  | .meth f c a os, ρ => (dO C a ρ).bind fun (x, o) => match x.rd (now ρ o) with
    | some (.ins _ c' _ _) => match decide (c = c') with
      | true => (dOs C os (now ρ o)).bind fun (xs, o2) => match x.firm || o2.isNone with
        | false => .stuck
        | true => runF (C.fn f) (x :: xs) (now (now ρ o) o2) (orE o2 o)
      | false => .stuck
    | _ => .stuck
  | .bm m p es, ρ => (dP C p ρ).bind fun (a, o) => match a with
    | .tm _ => .stuck
    | .pl i π => match (getS (now ρ o) i π).bind bmTy with
      | none => .stuck
      | some t => match decide (t = bmFor m) with
        | false => .stuck
        | true => (dEs C es (now ρ o)).bind fun (xs, o2) => match a.firm || o2.isNone with
          | false => .stuck
          | true => match getS (now (now ρ o) o2) i π with
            | none => .stuck
            | some d => match bmD m d xs with
              | some (y, d') => .ok (y, some (setS (now (now ρ o) o2) i π d'))
              | none => .stuck
  | .fldv a f, ρ => (dO C a ρ).bind fun (x, o) => op1 (fldS f) x o ρ
  | .rng os, ρ => (dOs C os ρ).bind fun (xs, o) => match rdL (now ρ o) xs with
    | none => .stuck
    | some ds => match rngD ds with
      | none => .stuck
      | some r => if r.length ≤ line then .ok (.lst true r, o) else .stuck
  | .lc it tg own cs elt, ρ => (dI C it ρ).bind fun (xs, o) => match ownOk own (lockI it (now ρ o)) with
    | false => .stuck
    | true => (compL (fun x r => match bindT tg x r with
      | none => .stuck
      | some r1 => (dCs C cs r1).bind fun (b, o1) => match b with
        | false => .ok ([], back own o1)
        | true => (dE C elt (now r1 o1)).bind fun (y, o2) => .ok ([y], back own (orE o2 o1))) xs (wipe own (lockI it (now ρ o))) none).bind fun (ys, o3) =>
    if ys.length ≤ line then .ok (.lst true ys, compO it own (now ρ o) o o3) else .stuck
  | .lc2 it tg own cs it2 tg2 own2 cs2 elt, ρ => (dI C it ρ).bind fun (xs, o) => match ownOk own (lockI it (now ρ o)) with
    | false => .stuck
    | true => (compL (fun x r => match bindT tg x r with
      | none => .stuck
      | some r1 => (dCs C cs r1).bind fun (b, o1) => match b with
        | false => .ok ([], back own o1)
        | true => (dI C it2 (now r1 o1)).bind fun (xs2, o2) => (compL (fun x2 r2 => match bindT tg2 x2 r2 with
            | none => .stuck
            | some r3 => (dCs C cs2 r3).bind fun (b2, o3) => match b2 with
              | false => .ok ([], back own2 o3)
              | true => (dE C elt (now r3 o3)).bind fun (y, o4) => .ok ([y], back own2 (orE o4 o3))) xs2 (wipe own2 (now (now r1 o1) o2)) none).bind fun (ys, o5) =>
          .ok (ys, back own (orE o5 (orE o2 o1)))) xs (wipe own (lockI it (now ρ o))) none).bind fun (ys, o6) =>
    if ys.length ≤ line then .ok (.lst true ys, compO it own (now ρ o) o o6) else .stuck
  | .dc k it tg own cs ke ve, ρ => (dI C it ρ).bind fun (xs, o) => match ownOk own (lockI it (now ρ o)) with
    | false => .stuck
    | true => (compL (fun x r => match bindT tg x r with
      | none => .stuck
      | some r1 => (dCs C cs r1).bind fun (b, o1) => match b with
        | false => .ok ([], back own o1)
        | true => (dE C ke (now r1 o1)).bind fun (y, o2) => (dE C ve (now (now r1 o1) o2)).bind fun (z, o3) => .ok ([y, z], back own (orE o3 (orE o2 o1)))) xs (wipe own (lockI it (now ρ o))) none).bind fun (ys, o3) =>
    match dputs k (evens ys) (odds ys) (.dct true k [] []) with
    | none => .stuck
    | some d => .ok (d, compO it own (now ρ o) o o3)
def dCs (C : Cfg) : Cs → Env → R (Bool × Option Env)
  | .nil, _ => .ok (true, none)
  | .one t, ρ => dT C t ρ
def dI (C : Cfg) : I → Env → R (List D × Option Env)
  | .seq a, ρ => (dO C a ρ).bind fun (x, o) => (keepO ρ o x).bind fun (d, o) => match seqOf d with
    | some xs => match shL xs with
      | true => .ok (xs, o)
      | false => .stuck
    | none => .stuck
  | .lock i, ρ => match seqOf (slot ρ i) with
    | some xs => match shL xs with
      | true => .ok (xs, none)
      | false => match fzableL xs with
        | true => .ok (fzL xs, some (ρ.set i (fz (slot ρ i))))
        | false => .stuck
    | none => .stuck
  | .rng1 a, ρ => (dO C a ρ).bind fun (x, o) => match x.rd (now ρ o) with
    | some (.int j) => R.of ((rngD [.int j]).map fun r => (r, o))
    | _ => .stuck
  | .rng2 a b, ρ => (dO C a ρ).bind fun (x, o1) => (dO C b (now ρ o1)).bind fun (y, o2) => match x.firm || o2.isNone with
    | false => .stuck
    | true => match x.rd (now (now ρ o1) o2), y.rd (now (now ρ o1) o2) with
      | some (.int i), some (.int j) => R.of ((rngD [.int i, .int j]).map fun r => (r, orE o2 o1))
      | _, _ => .stuck
  | .rng3 a b c, ρ => (dO C a ρ).bind fun (x, o1) => (dO C b (now ρ o1)).bind fun (y, o2) => (dO C c (now (now ρ o1) o2)).bind fun (z, o3) => match (x.firm && y.firm) || (o2.isNone && o3.isNone) with
    | false => .stuck
    | true => match x.rd (now (now (now ρ o1) o2) o3), y.rd (now (now (now ρ o1) o2) o3), z.rd (now (now (now ρ o1) o2) o3) with
      | some (.int i), some (.int j), some (.int k) => R.of ((rngD [.int i, .int j, .int k]).map fun r => (r, orE o3 (orE o2 o1)))
      | _, _, _ => .stuck
  | .enum a, ρ => (dO C a ρ).bind fun (x, o) => (keepO ρ o x).bind fun (d, o) => match seqOf d with
    | some xs => .ok (enumL 0 xs, o)
    | none => .stuck
  | .zip a b, ρ => (dO C a ρ).bind fun (x, o) => (keepO ρ o x).bind fun (d, o) => (dO C b (now ρ o)).bind fun (y, o2) => (keepO (now ρ o) o2 y).bind fun (e, o2) => match seqOf d, seqOf e with
    | some xs, some ys => .ok (zipL xs ys, orE o2 o)
    | _, _ => .stuck
  | .items a, ρ => (dO C a ρ).bind fun (x, o) => (keepO ρ o x).bind fun (d, o) => match d with
    | .dct _ _ ks vs => .ok (zipL ks vs, o)
    | _ => .stuck
  | .keys a, ρ => (dO C a ρ).bind fun (x, o) => (keepO ρ o x).bind fun (d, o) => match d with
    | .dct _ _ ks _ => .ok (ks, o)
    | _ => .stuck
  | .vals a, ρ => (dO C a ρ).bind fun (x, o) => (keepO ρ o x).bind fun (d, o) => match d with
    | .dct _ _ _ vs => .ok (vs, o)
    | _ => .stuck
  | .revs a, ρ => (dO C a ρ).bind fun (x, o) => (keepO ρ o x).bind fun (d, o) => match seqOf d with
    | some xs => .ok (xs.reverse, o)
    | none => .stuck
end

/-- a statement's answer -/
inductive SR where
  | nx (ρ : Env) | ret (d : D) (ρ : Env) | bk (ρ : Env) | ct (ρ : Env) | exc (c : Nat) (d : D) (ρ : Env) | stuck
  deriving Inhabited
def R.then {α : Type} (r : R α) (f : α → SR) : SR := match r with
  | .ok a => f a
  | .exc c d ρ => .exc c d ρ
  | .stuck => .stuck
def SR.seq (r : SR) (f : Env → SR) : SR := match r with
  | .nx ρ => f ρ
  | r => r
def SR.mapE (g : Env → Env) : SR → SR
  | .nx ρ => .nx (g ρ)
  | .ret d ρ => .ret d (g ρ)
  | .bk ρ => .bk (g ρ)
  | .ct ρ => .ct (g ρ)
  | .exc c d ρ => .exc c d (g ρ)
  | .stuck => .stuck
def loopF (turn : D → Env → SR) : List D → Env → SR
  | [], ρ => .nx ρ
  | x :: xs, ρ => match turn x ρ with
    | .nx ρ' => loopF turn xs ρ'
    | .ct ρ' => loopF turn xs ρ'
    | .bk ρ' => .nx ρ'
    | r => r
def loopW (test : Env → R (Bool × Option Env)) (body : Env → SR) : Nat → Env → SR
  | 0, _ => .stuck
  | n + 1, ρ => (test ρ).then fun (b, o) => match b with
    | false => .nx (now ρ o)
    | true => match body (now ρ o) with
      | .nx ρ' => loopW test body n ρ'
      | .ct ρ' => loopW test body n ρ'
      | .bk ρ' => .nx ρ'
      | r => r
def dXe (C : Cfg) (c : Nat) (d : D) : Xe → Option D
  | .what => some d
  | .str s => some (.str s)
  | .bl b => some (.bl b)
  | .pair a b => match dXe C c d a, dXe C c d b with
    | some x, some y => some (.tup [x, y])
    | _, _ => none
  | .eqs s => match d with
    | .str t => some (.bl (decide (t = s)))
    | .int _ => some (.bl false)
    | _ => none
  | .isx c' => some (.bl (C.sub c c'))
def dXt (C : Cfg) (c : Nat) : Xt → Bool
  | .isx c' => C.sub c c'
  | .and a b => dXt C c a && dXt C c b
  | .not a => !dXt C c a
def dXs (C : Cfg) (c : Nat) (d : D) : Xs → Env → SR
  | .ret e, ρ => match dXe C c d e with
    | some x => .ret x ρ
    | none => .stuck
  | .app i e, ρ => match dXe C c d e, slot ρ i with
    | some x, .lst true xs => if decide (xs.length < line) then .nx (ρ.set i (.lst true (xs ++ [x]))) else .stuck
    | _, _ => .stuck
  | .iff t e r, ρ => match dXt C c t with
    | true => match dXe C c d e with
      | some x => .ret x ρ
      | none => .stuck
    | false => dXs C c d r ρ
  | .pass, ρ => .nx ρ
def storeI (ρ : Env) (i : Nat) (π : List Nat) (k x : D) : SR := match getS ρ i π with
  | none => .stuck
  | some d => match putD d k x with
    | some d' => .nx (setS ρ i π d')
    | none => .stuck
def storeF (ρ : Env) (i : Nat) (π : List Nat) (f : Nat) (x : D) : SR := match getS ρ i π with
  | none => .stuck
  | some d => match putF d f x with
    | some d' => .nx (setS ρ i π d')
    | none => .stuck
def fldD (f : Nat) (d : D) : Option D := match d with
  | .ins _ _ fs vs => match fldN f fs with
    | none => none
    | some n => vs[n]?
  | _ => none
mutual
def dS (C : Cfg) : S → Env → SR
  | .asg t e, ρ => (dE C e ρ).then fun (d, o) => match bindT t d (now ρ o) with
    | some ρ' => .nx ρ'
    | none => .stuck
  | .par i j a b, ρ => (dE C a ρ).then fun (x, o) => (dE C b (now ρ o)).then fun (y, o2) => .nx (((now (now ρ o) o2).set i x).set j y)
  | .sfld p f e, ρ => (dE C e ρ).then fun (x, o) => (dP C p (now ρ o)).then fun (a, o2) => match a with
    | .tm _ => .stuck
    | .pl i π => storeF (now (now ρ o) o2) i π f x
  | .six p k e, ρ => (dE C e ρ).then fun (x, o) => (dP C p (now ρ o)).then fun (a, o2) => (dE C k (now (now ρ o) o2)).then fun (y, o3) => match a.firm || o3.isNone with
    | false => .stuck
    | true => match a with
      | .tm _ => .stuck
      | .pl i π => storeI (now (now (now ρ o) o2) o3) i π y x
  | .aug i op e, ρ => (dE C e ρ).then fun (y, o) => match slot (now ρ o) i, y with
    | .int a, .int b => match binI op a b with
      | some d => .nx ((now ρ o).set i d)
      | none => .stuck
    | _, _ => .stuck
  | .augix p k op e, ρ => (dP C p ρ).then fun (a, o) => (dE C k (now ρ o)).then fun (y, o2) => match a with
    | .tm _ => .stuck
    | .pl i π => match a.firm || o2.isNone, (getS (now (now ρ o) o2) i π).bind fun d => itemD d y with
      | true, some (.int u) => (dE C e (now (now ρ o) o2)).then fun (z, o3) => match a.firm || o3.isNone, z with
        | true, .int v => match binI op u v with
          | some w => storeI (now (now (now ρ o) o2) o3) i π y w
          | none => .stuck
        | _, _ => .stuck
      | _, _ => .stuck
  | .augfld p f op e, ρ => (dP C p ρ).then fun (a, o) => match a with
    | .tm _ => .stuck
    | .pl i π => match (getS (now ρ o) i π).bind (fldD f) with
      | some (.int u) => (dE C e (now ρ o)).then fun (z, o3) => match a.firm || o3.isNone, z with
        | true, .int v => match binI op u v with
          | some w => storeF (now (now ρ o) o3) i π f w
          | none => .stuck
        | _, _ => .stuck
      | _ => .stuck
  | .ex e, ρ => (dE C e ρ).then fun (_, o) => .nx (now ρ o)
  | .iff t a b, ρ => (dT C t ρ).then fun (x, o) => match x with
    | true => dSs C a (now ρ o)
    | false => dSs C b (now ρ o)
  | .for_ it tg body, ρ => (dI C it ρ).then fun (xs, o) => (loopF (fun x r => match bindT tg x r with
      | none => .stuck
      | some r1 => dSs C body r1) xs (lockI it (now ρ o))).mapE (unlockI it (now ρ o))
  | .whl t body, ρ => loopW (dT C t) (dSs C body) C.fuel ρ
  | .ret e, ρ => (dE C e ρ).then fun (d, o) => .ret d (now ρ o)
  | .retN, ρ => .ret .non ρ
  | .rs c es, ρ => (dEs C es ρ).then fun (xs, o) => match xs with
    | [.str z] => match decide (z.length ≤ 1000) with
      | true => .exc c (.str z) (now ρ o)
      | false => .stuck
    | _ => .stuck
  | .try_ body hs, ρ => match dSs C body ρ with
    | .exc c d ρ' => dHs C hs c d ρ'
    | r => r
  | .brk, ρ => .bk ρ
  | .cnt, ρ => .ct ρ
  | .pass, ρ => .nx ρ
  | .never, _ => .stuck
def dSs (C : Cfg) : Ss → Env → SR
  | .nil, ρ => .nx ρ
  | .cons s ss, ρ => (dS C s ρ).seq fun ρ' => dSs C ss ρ'
def dHs (C : Cfg) : Hs → Nat → D → Env → SR
  | .nil, c, d, ρ => .exc c d ρ
  | .cons c' i suite hs, c, d, ρ => match C.sub c c' with
    | true => match i with
      | some i => (dXs C c d suite (ρ.set i .gone)).mapE fun r => r.set i .gone
      | none => dXs C c d suite ρ
    | false => dHs C hs c d ρ
end
/-- a def: its slots, its parameters (false: it may be given another value), its body -/
structure Df where
  slots : Nat
  prot : List Bool
  body : Ss
def outsOf : List Bool → Env → List D
  | [], _ => []
  | b :: bs, d :: ρ => (match b with
    | true => d
    | false => .gone) :: outsOf bs ρ
  | _ :: bs, [] => .gone :: outsOf bs []
def dF (C : Cfg) (f : Df) : Fn := fun ds => match decide (ds.length = f.prot.length) with
  | false => .stuck
  | true => match dSs C f.body (ds ++ List.replicate (f.slots - ds.length) .gone) with
    | .nx ρ => .ok .non (outsOf f.prot ρ)
    | .ret d ρ => .ok d (outsOf f.prot ρ)
    | .exc c d _ => .exc c d
    | _ => .stuck
end Mp
/-! How plain data stand in the abstract heap. G: the ground, what is never changed again; H: the heap; F: the addresses of owned objects. -/
namespace Mp
open PySem L2

/-- every tracked thing stays -/
def Ext (G H : Hp) : Prop := ∀ a o, G a = some o → H a = some o
theorem Ext.refl (G : Hp) : Ext G G := fun _ _ h => h
theorem Ext.trans {A B C : Hp} (x : Ext A B) (y : Ext B C) : Ext A C := fun a o h => y a o (x a o h)
theorem Ext.back {G H : Hp} (x : Ext G H) {a : Addr} (h : H a = none) : G a = none := by
  cases q : G a with
  | none => rfl
  | some o => rw [x a o q] at h; cases h
theorem Ext.rd {G H : Hp} (x : Ext G H) {a : Addr} {u : HO} (h : Rd G a u) : Rd H a u := by
  rcases h with h | ⟨o, h⟩
  · exact .inl (x _ _ h)
  · exact .inr ⟨o, x _ _ h⟩
theorem Ext.sqL {K : PySem.W.Frag} {G H : Hp} (x : Ext G H) {a : Addr} {vs : List V} (h : SqL K G a vs) : SqL K H a vs := by
  rcases h with h | h
  · exact .inl (x.rd h)
  · exact .inr h
theorem Ext.sqT {K : PySem.W.Frag} {G H : Hp} (x : Ext G H) {a : Addr} {vs : List V} (h : SqT K G a vs) : SqT K H a vs := by
  rcases h with h | h
  · exact .inl (x.rd h)
  · exact .inr h
theorem Ext.new {H : Hp} {p : Addr} {o : HO} (h : H p = .none) : Ext H (upd H p o) := fun a u e => by
  rw [upd_ne (ne_of_none e h)]; exact e

/-- what is fixed for a law: the written part, the own classes, the fields' names, the exceptions -/
structure Tab where
  K : PySem.W.Frag
  ca : Nat → Addr
  fnm : Nat → Str
  nf : Nat
  inj : ∀ f g, f < nf → g < nf → fnm f = fnm g → f = g
  xa : Nat → Addr
  xf : Nat → Str
  nx : Nat

def keyD : Key → D
  | .inl i => .int i
  | .inr x => .str x

section
variable (T : Tab) (G H : Hp)
mutual
def Rp : D → V → List Addr → Prop
  | .non, v, F => v = .non ∧ F = []
  | .bl b, v, F => v = .bl b ∧ F = []
  | .int i, v, F => v = .int i ∧ F = []
  | .str s, v, F => v = .str s ∧ F = []
  | .tup xs, v, F => ∃ p vs, v = .ref p ∧ SqT T.K G p vs ∧ RpL xs vs F
  | .scr ns, v, F => (∃ p, v = .ref p ∧ SqL T.K G p (ns.map V.int)) ∧ F = []
  | .lst false xs, v, F => ∃ p vs, v = .ref p ∧ G p = some (.lst vs) ∧ RpL xs vs [] ∧ F = []
  | .lst true xs, v, F => ∃ p vs F', v = .ref p ∧ H p = some (.lst vs) ∧ RpL xs vs F' ∧ F = p :: F'
  | .dct o k ks ds, v, F => k = true ∧ ∃ p kvs F', v = .ref p ∧ ks = kvs.map (fun q => keyD q.1) ∧ RpL ds (kvs.map (·.2)) F' ∧ (kvs.map (·.1)).Nodup ∧ kvs.length ≤ sizeLine ∧
      (match o with
        | true => H p = some (.dK kvs) ∧ F = p :: F'
        | false => G p = some (.dK kvs) ∧ F' = [] ∧ F = [])
  | .ins o c fs ds, v, F => ∃ p dx vs F', v = .ref p ∧ RpL ds vs F' ∧ fs.length = ds.length ∧ fs.Nodup ∧ (∀ f ∈ fs, f < T.nf) ∧ p ≠ dx ∧
      (match o with
        | true => H p = some (.ins (T.ca c) dx ((fs.map T.fnm).zip vs)) ∧ H dx = some (.own p) ∧ F = p :: dx :: F'
        | false => G p = some (.ins (T.ca c) dx ((fs.map T.fnm).zip vs)) ∧ G dx = some (.own p) ∧ F' = [] ∧ F = [])
  | .gone, _, F => F = []
def RpL : List D → List V → List Addr → Prop
  | [], vs, F => vs = [] ∧ F = []
  | x :: xs, vs, F => ∃ v ws F1 F2, vs = v :: ws ∧ F = F1 ++ F2 ∧ Rp x v F1 ∧ RpL xs ws F2
end
end

section
variable {T : Tab} {G G' H H' : Hp}
theorem RpL.length : ∀ {xs : List D} {vs : List V} {F : List Addr}, RpL T G H xs vs F → vs.length = xs.length
  | [], vs, F, h => by obtain ⟨rfl, _⟩ := h; rfl
  | x :: xs, vs, F, h => by
    obtain ⟨v, ws, F1, F2, rfl, _, _, h2⟩ := h
    simp only [List.length_cons]
    rw [RpL.length h2]
mutual
theorem Rp.mono (hg : Ext G G') : ∀ (d : D) (v : V) (F : List Addr), Rp T G H d v F → (∀ a ∈ F, ∀ o, H a = some o → H' a = some o) → Rp T G' H' d v F
  | .non, v, F, h, _ => h
  | .bl b, v, F, h, _ => h
  | .int i, v, F, h, _ => h
  | .str s, v, F, h, _ => h
  | .scr ns, v, F, h, _ => by
    obtain ⟨⟨p, e, q⟩, ef⟩ := h
    exact ⟨⟨p, e, hg.sqL q⟩, ef⟩
  | .tup xs, v, F, h, k => by
    obtain ⟨p, vs, e, q, r⟩ := h
    exact ⟨p, vs, e, hg.sqT q, RpL.mono hg xs vs F r k⟩
  | .lst false xs, v, F, h, k => by
    obtain ⟨p, vs, e, q, r, ef⟩ := h
    exact ⟨p, vs, e, hg _ _ q, RpL.mono hg xs vs [] r (fun _ z => nomatch z), ef⟩
  | .lst true xs, v, F, h, k => by
    obtain ⟨p, vs, F', e, q, r, ef⟩ := h
    subst ef
    exact ⟨p, vs, F', e, k p List.mem_cons_self _ q, RpL.mono hg xs vs F' r (fun a ha => k a (List.mem_cons_of_mem _ ha)), rfl⟩
  | .dct o b ks ds, v, F, h, k => by
    obtain ⟨eb, p, kvs, F', e, ek, r, nd, hz, q⟩ := h
    cases o with
    | true =>
      obtain ⟨q, ef⟩ := q
      subst ef
      exact ⟨eb, p, kvs, F', e, ek, RpL.mono hg ds _ F' r (fun a ha => k a (List.mem_cons_of_mem _ ha)), nd, hz, k p List.mem_cons_self _ q, rfl⟩
    | false =>
      obtain ⟨q, e1, ef⟩ := q
      subst e1
      exact ⟨eb, p, kvs, [], e, ek, RpL.mono hg ds _ [] r (fun _ z => nomatch z), nd, hz, hg _ _ q, rfl, ef⟩
  | .ins o c fs ds, v, F, h, k => by
    obtain ⟨p, dx, vs, F', e, r, l, nd, lt, ne, q⟩ := h
    cases o with
    | true =>
      obtain ⟨q1, q2, ef⟩ := q
      subst ef
      exact ⟨p, dx, vs, F', e, RpL.mono hg ds vs F' r (fun a ha => k a (List.mem_cons_of_mem _ (List.mem_cons_of_mem _ ha))), l, nd, lt, ne, k p List.mem_cons_self _ q1, k dx (List.mem_cons_of_mem _ List.mem_cons_self) _ q2, rfl⟩
    | false =>
      obtain ⟨q1, q2, e1, ef⟩ := q
      subst e1
      exact ⟨p, dx, vs, [], e, RpL.mono hg ds vs [] r (fun _ z => nomatch z), l, nd, lt, ne, hg _ _ q1, hg _ _ q2, rfl, ef⟩
  | .gone, v, F, h, _ => h
theorem RpL.mono (hg : Ext G G') : ∀ (xs : List D) (vs : List V) (F : List Addr), RpL T G H xs vs F → (∀ a ∈ F, ∀ o, H a = some o → H' a = some o) → RpL T G' H' xs vs F
  | [], vs, F, h, _ => h
  | x :: xs, vs, F, h, k => by
    obtain ⟨v, ws, F1, F2, e, ef, r1, r2⟩ := h
    subst ef
    exact ⟨v, ws, F1, F2, e, rfl, Rp.mono hg x v F1 r1 (fun a ha => k a (List.mem_append_left _ ha)), RpL.mono hg xs ws F2 r2 (fun a ha => k a (List.mem_append_right _ ha))⟩
end
/-- owned objects are tracked -/
def Trk (H : Hp) (F : List Addr) : Prop := ∀ a ∈ F, ∃ o, H a = some o
mutual
theorem Rp.trk : ∀ (d : D) (v : V) (F : List Addr), Rp T G H d v F → Trk H F
  | .non, v, F, h => by obtain ⟨_, rfl⟩ := h; exact fun _ z => nomatch z
  | .bl b, v, F, h => by obtain ⟨_, rfl⟩ := h; exact fun _ z => nomatch z
  | .int i, v, F, h => by obtain ⟨_, rfl⟩ := h; exact fun _ z => nomatch z
  | .str s, v, F, h => by obtain ⟨_, rfl⟩ := h; exact fun _ z => nomatch z
  | .scr s, v, F, h => by obtain ⟨_, rfl⟩ := h; exact fun _ z => nomatch z
  | .tup xs, v, F, h => by
    obtain ⟨p, vs, e, q, r⟩ := h
    exact RpL.trk xs vs F r
  | .lst false xs, v, F, h => by
    obtain ⟨p, vs, e, q, r, ef⟩ := h
    subst ef
    exact fun _ z => nomatch z
  | .lst true xs, v, F, h => by
    obtain ⟨p, vs, F', e, q, r, ef⟩ := h
    subst ef
    intro a ha
    rcases List.mem_cons.mp ha with rfl | ha
    · exact ⟨_, q⟩
    · exact RpL.trk xs vs F' r a ha
  | .dct o b ks ds, v, F, h => by
    obtain ⟨eb, p, kvs, F', e, ek, r, nd, hz, q⟩ := h
    cases o with
    | true =>
      obtain ⟨q, ef⟩ := q
      subst ef
      intro a ha
      rcases List.mem_cons.mp ha with rfl | ha
      · exact ⟨_, q⟩
      · exact RpL.trk ds _ F' r a ha
    | false =>
      obtain ⟨q, e1, ef⟩ := q
      subst ef
      exact fun _ z => nomatch z
  | .ins o c fs ds, v, F, h => by
    obtain ⟨p, dx, vs, F', e, r, l, nd, lt, ne, q⟩ := h
    cases o with
    | true =>
      obtain ⟨q1, q2, ef⟩ := q
      subst ef
      intro a ha
      rcases List.mem_cons.mp ha with rfl | ha
      · exact ⟨_, q1⟩
      · rcases List.mem_cons.mp ha with rfl | ha
        · exact ⟨_, q2⟩
        · exact RpL.trk ds vs F' r a ha
    | false =>
      obtain ⟨q1, q2, e1, ef⟩ := q
      subst ef
      exact fun _ z => nomatch z
  | .gone, v, F, h => by
    have e : F = [] := h
    subst e
    exact fun _ z => nomatch z
theorem RpL.trk : ∀ (xs : List D) (vs : List V) (F : List Addr), RpL T G H xs vs F → Trk H F
  | [], vs, F, h => by obtain ⟨_, rfl⟩ := h; exact fun _ z => nomatch z
  | x :: xs, vs, F, h => by
    obtain ⟨v, ws, F1, F2, e, ef, r1, r2⟩ := h
    subst ef
    intro a ha
    rcases List.mem_append.mp ha with ha | ha
    · exact Rp.trk x v F1 r1 a ha
    · exact RpL.trk xs ws F2 r2 a ha
end
mutual
/-- nothing owned: no address -/
theorem Rp.sh_nil : ∀ (d : D) (v : V) (F : List Addr), sh d = true → Rp T G H d v F → F = []
  | .non, v, F, _, h => h.2
  | .bl b, v, F, _, h => h.2
  | .int i, v, F, _, h => h.2
  | .str s, v, F, _, h => h.2
  | .scr s, v, F, _, h => h.2
  | .tup xs, v, F, s, h => by
    obtain ⟨p, vs, e, q, r⟩ := h
    exact RpL.sh_nil xs vs F (by simpa only [sh] using s) r
  | .lst false xs, v, F, s, h => by
    obtain ⟨p, vs, e, q, r, ef⟩ := h
    exact ef
  | .lst true xs, v, F, s, h => by simp [sh] at s
  | .dct true b ks ds, v, F, s, h => by simp [sh] at s
  | .dct false b ks ds, v, F, s, h => by
    obtain ⟨eb, p, kvs, F', e, ek, r, nd, hz, q, e1, ef⟩ := h
    exact ef
  | .ins true c fs ds, v, F, s, h => by simp [sh] at s
  | .ins false c fs ds, v, F, s, h => by
    obtain ⟨p, dx, vs, F', e, r, l, nd, lt, ne, q1, q2, e1, ef⟩ := h
    exact ef
  | .gone, v, F, s, h => by simp [sh] at s
theorem RpL.sh_nil : ∀ (xs : List D) (vs : List V) (F : List Addr), shL xs = true → RpL T G H xs vs F → F = []
  | [], vs, F, _, h => h.2
  | x :: xs, vs, F, s, h => by
    obtain ⟨v, ws, F1, F2, e, ef, r1, r2⟩ := h
    have s' : sh x = true ∧ shL xs = true := by simpa only [shL, Bool.and_eq_true] using s
    rw [ef, Rp.sh_nil x v F1 s'.1 r1, RpL.sh_nil xs ws F2 s'.2 r2]
    rfl
end
theorem Rp.sh {d : D} {v : V} {F : List Addr} (s : sh d = true) (h : Rp T G H d v F) (hg : Ext G G') : Rp T G' H' d v [] := by
  have e := Rp.sh_nil d v F s h
  subst e
  exact Rp.mono hg d v [] h (fun _ z => nomatch z)
theorem RpL.sh {xs : List D} {vs : List V} {F : List Addr} (s : shL xs = true) (h : RpL T G H xs vs F) (hg : Ext G G') : RpL T G' H' xs vs [] := by
  have e := RpL.sh_nil xs vs F s h
  subst e
  exact RpL.mono hg xs vs [] h (fun _ z => nomatch z)
mutual
theorem Rp.fz (hg : Ext G G') : ∀ (d : D) (v : V) (F : List Addr), fzable d = true → Rp T G H d v F → (∀ a ∈ F, ∀ o, H a = some o → G' a = some o) → Rp T G' H' (fz d) v []
  | .non, v, F, _, h, _ => ⟨h.1, rfl⟩
  | .bl b, v, F, _, h, _ => ⟨h.1, rfl⟩
  | .int i, v, F, _, h, _ => ⟨h.1, rfl⟩
  | .str s, v, F, _, h, _ => ⟨h.1, rfl⟩
  | .scr s, v, F, _, h, _ => by
    obtain ⟨⟨p, e, q⟩, ef⟩ := h
    exact ⟨⟨p, e, hg.sqL q⟩, rfl⟩
  | .tup xs, v, F, s, h, k => by
    obtain ⟨p, vs, e, q, r⟩ := h
    exact ⟨p, vs, e, hg.sqT q, RpL.fz hg xs vs F (by simpa only [fzable] using s) r k⟩
  | .lst false xs, v, F, s, h, k => by
    obtain ⟨p, vs, e, q, r, ef⟩ := h
    exact ⟨p, vs, e, hg _ _ q, RpL.fz hg xs vs [] (by simpa only [fzable] using s) r (fun _ z => nomatch z), rfl⟩
  | .lst true xs, v, F, s, h, k => by
    obtain ⟨p, vs, F', e, q, r, ef⟩ := h
    subst ef
    exact ⟨p, vs, e, k p List.mem_cons_self _ q, RpL.fz hg xs vs F' (by simpa only [fzable] using s) r (fun a ha => k a (List.mem_cons_of_mem _ ha)), rfl⟩
  | .dct o b ks ds, v, F, s, h, k => by
    obtain ⟨eb, p, kvs, F', e, ek, r, nd, hz, q⟩ := h
    have s' : fzableL ds = true := by simpa only [fzable] using s
    cases o with
    | true =>
      obtain ⟨q, ef⟩ := q
      subst ef
      exact ⟨eb, p, kvs, [], e, ek, RpL.fz hg ds _ F' s' r (fun a ha => k a (List.mem_cons_of_mem _ ha)), nd, hz, k p List.mem_cons_self _ q, rfl, rfl⟩
    | false =>
      obtain ⟨q, e1, ef⟩ := q
      subst e1
      exact ⟨eb, p, kvs, [], e, ek, RpL.fz hg ds _ [] s' r (fun _ z => nomatch z), nd, hz, hg _ _ q, rfl, rfl⟩
  | .ins o c fs ds, v, F, s, h, k => by
    obtain ⟨p, dx, vs, F', e, r, l, nd, lt, ne, q⟩ := h
    have s' : fzableL ds = true := by simpa only [fzable] using s
    have l' : fs.length = (fzL ds).length := by
      rw [l]
      clear s s' r l
      induction ds with
      | nil => rfl
      | cons x xs ih => simp only [fzL, List.length_cons, ih]
    cases o with
    | true =>
      obtain ⟨q1, q2, ef⟩ := q
      subst ef
      exact ⟨p, dx, vs, [], e, RpL.fz hg ds vs F' s' r (fun a ha => k a (List.mem_cons_of_mem _ (List.mem_cons_of_mem _ ha))), l', nd, lt, ne, k p List.mem_cons_self _ q1, k dx (List.mem_cons_of_mem _ List.mem_cons_self) _ q2, rfl, rfl⟩
    | false =>
      obtain ⟨q1, q2, e1, ef⟩ := q
      subst e1
      exact ⟨p, dx, vs, [], e, RpL.fz hg ds vs [] s' r (fun _ z => nomatch z), l', nd, lt, ne, hg _ _ q1, hg _ _ q2, rfl, rfl⟩
  | .gone, v, F, s, h, _ => by simp [fzable] at s
theorem RpL.fz (hg : Ext G G') : ∀ (xs : List D) (vs : List V) (F : List Addr), fzableL xs = true → RpL T G H xs vs F → (∀ a ∈ F, ∀ o, H a = some o → G' a = some o) → RpL T G' H' (fzL xs) vs []
  | [], vs, F, _, h, _ => ⟨h.1, rfl⟩
  | x :: xs, vs, F, s, h, k => by
    obtain ⟨v, ws, F1, F2, e, ef, r1, r2⟩ := h
    subst ef
    have s' : fzable x = true ∧ fzableL xs = true := by simpa only [fzableL, Bool.and_eq_true] using s
    exact ⟨v, ws, [], [], e, rfl, Rp.fz hg x v F1 s'.1 r1 (fun a ha => k a (List.mem_append_left _ ha)), RpL.fz hg xs ws F2 s'.2 r2 (fun a ha => k a (List.mem_append_right _ ha))⟩
end
mutual
theorem sh_fz : ∀ d : D, fzable d = true → sh (Mp.fz d) = true
  | .non, _ => rfl
  | .bl b, _ => rfl
  | .int i, _ => rfl
  | .str s, _ => rfl
  | .scr s, _ => rfl
  | .tup xs, h => by simp only [Mp.fz, sh]; exact shL_fzL xs (by simpa only [fzable] using h)
  | .lst o xs, h => by simp only [Mp.fz, sh]; rw [shL_fzL xs (by simpa only [fzable] using h)]; rfl
  | .dct o k ks vs, h => by simp only [Mp.fz, sh]; rw [shL_fzL vs (by simpa only [fzable] using h)]; rfl
  | .ins o c fs vs, h => by simp only [Mp.fz, sh]; rw [shL_fzL vs (by simpa only [fzable] using h)]; rfl
  | .gone, h => by simp [fzable] at h
theorem shL_fzL : ∀ xs : List D, fzableL xs = true → shL (Mp.fzL xs) = true
  | [], _ => rfl
  | x :: xs, h => by
    have s' : fzable x = true ∧ fzableL xs = true := by simpa only [fzableL, Bool.and_eq_true] using h
    simp only [Mp.fzL, shL, sh_fz x s'.1, shL_fzL xs s'.2, Bool.and_self]
end
theorem RpL.get : ∀ {xs : List D} {vs : List V} {F : List Addr} {n : Nat} {d : D}, RpL T G H xs vs F → xs[n]? = some d → ∃ v F1, vs[n]? = some v ∧ Rp T G H d v F1 ∧ ∀ a ∈ F1, a ∈ F
  | [], _, _, n, d, _, e => by simp at e
  | x :: xs, vs, F, 0, d, h, e => by
    obtain ⟨v, ws, F1, F2, rfl, rfl, r1, r2⟩ := h
    simp at e
    subst e
    exact ⟨v, F1, rfl, r1, fun a ha => List.mem_append_left _ ha⟩
  | x :: xs, vs, F, n + 1, d, h, e => by
    obtain ⟨v, ws, F1, F2, rfl, rfl, r1, r2⟩ := h
    obtain ⟨w, F3, e1, r3, k⟩ := RpL.get (n := n) r2 (by simpa using e)
    exact ⟨w, F3, by simpa using e1, r3, fun a ha => List.mem_append_right _ (k a ha)⟩
theorem RpL.append : ∀ {xs ys : List D} {vs ws : List V} {F1 F2 : List Addr}, RpL T G H xs vs F1 → RpL T G H ys ws F2 → RpL T G H (xs ++ ys) (vs ++ ws) (F1 ++ F2)
  | [], _, _, _, _, _, h, k => by obtain ⟨rfl, rfl⟩ := h; exact k
  | x :: xs, ys, vs, ws, F, F2, h, k => by
    obtain ⟨v, vs', G1, G2, rfl, rfl, r1, r2⟩ := h
    exact ⟨v, vs' ++ ws, G1, G2 ++ F2, rfl, by rw [List.append_assoc], r1, RpL.append r2 k⟩
theorem RpL.one {d : D} {v : V} {F : List Addr} (h : Rp T G H d v F) : RpL T G H [d] [v] F := ⟨v, [], F, [], rfl, by simp, h, rfl, rfl⟩
/-- shared parts, in any arrangement of the values -/
theorem RpL.shMem : ∀ {xs : List D} {vs : List V}, RpL T G H xs vs [] → ∀ {n : Nat} {d : D}, xs[n]? = some d → ∃ v, vs[n]? = some v ∧ Rp T G H d v [] := fun {xs vs} h {n d} e => by
  obtain ⟨v, F1, e1, r, k⟩ := h.get e
  have : F1 = [] := by
    cases F1 with
    | nil => rfl
    | cons a _ => exact absurd (k a List.mem_cons_self) (by simp)
  subst this
  exact ⟨v, e1, r⟩
theorem RpL.take : ∀ (n : Nat) {xs : List D} {vs : List V}, RpL T G H xs vs [] → RpL T G H (xs.take n) (vs.take n) []
  | 0, _, _, _ => ⟨rfl, rfl⟩
  | n + 1, [], vs, h => by obtain ⟨rfl, _⟩ := h; exact ⟨rfl, rfl⟩
  | n + 1, x :: xs, vs, h => by
    obtain ⟨v, ws, F1, F2, rfl, ef, r1, r2⟩ := h
    obtain ⟨rfl, rfl⟩ := List.append_eq_nil_iff.mp ef.symm
    exact ⟨v, ws.take n, [], [], rfl, rfl, r1, RpL.take n r2⟩
theorem RpL.drop : ∀ (n : Nat) {xs : List D} {vs : List V}, RpL T G H xs vs [] → RpL T G H (xs.drop n) (vs.drop n) []
  | 0, _, _, h => h
  | n + 1, [], vs, h => by obtain ⟨rfl, _⟩ := h; exact ⟨rfl, rfl⟩
  | n + 1, x :: xs, vs, h => by
    obtain ⟨v, ws, F1, F2, rfl, ef, r1, r2⟩ := h
    obtain ⟨rfl, rfl⟩ := List.append_eq_nil_iff.mp ef.symm
    exact RpL.drop n r2
theorem RpL.reverse : ∀ {xs : List D} {vs : List V}, RpL T G H xs vs [] → RpL T G H xs.reverse vs.reverse []
  | [], vs, h => by obtain ⟨rfl, _⟩ := h; exact ⟨rfl, rfl⟩
  | x :: xs, vs, h => by
    obtain ⟨v, ws, F1, F2, rfl, ef, r1, r2⟩ := h
    obtain ⟨rfl, rfl⟩ := List.append_eq_nil_iff.mp ef.symm
    rw [List.reverse_cons, List.reverse_cons]
    exact (RpL.reverse r2).append (RpL.one r1)
theorem RpL.toI : ∀ {xs : List D} {vs : List V} {ns : List Int} {F : List Addr}, RpL T G H xs vs F → toInts xs = some ns → vs = ns.map V.int
  | [], vs, ns, F, h, e => by
    obtain ⟨rfl, _⟩ := h
    simp only [toInts] at e
    cases e
    rfl
  | x :: xs, vs, ns, F, h, e => by
    obtain ⟨v, ws, F1, F2, rfl, rfl, r1, r2⟩ := h
    cases x with
    | int i =>
      simp only [toInts] at e
      cases q : toInts xs with
      | none => rw [q] at e; cases e
      | some r =>
        rw [q] at e
        cases e
        have h1 : v = V.int i := r1.1
        rw [RpL.toI r2 q, h1]
        rfl
    | _ => simp [toInts] at e
theorem RpL.ofInts : ∀ (ns : List Int), RpL T G H (ns.map D.int) (ns.map V.int) []
  | [] => ⟨rfl, rfl⟩
  | n :: ns => ⟨V.int n, ns.map V.int, [], [], rfl, rfl, ⟨rfl, rfl⟩, RpL.ofInts ns⟩
end
end Mp
/-! Steps of the heap, the slots, places. -/
namespace Mp
open PySem L2

/-- the heap has moved: only what F owns, and new things; F' is owned now -/
structure Step (G H : Hp) (F : List Addr) (G' H' : Hp) (F' : List Addr) : Prop where
  g : Ext G G'
  h : Ext G' H'
  keep : ∀ a o, H a = some o → a ∉ F → H' a = some o
  sub : ∀ a ∈ F', a ∈ F ∨ H a = none
  gsub : ∀ a o, G' a = some o → G a = some o ∨ a ∈ F ∨ H a = none
  nd : F'.Nodup
  gn : ∀ a ∈ F', G' a = none
theorem Step.trans {G H G1 H1 G2 H2 : Hp} {F F1 F2 : List Addr} (a : Step G H F G1 H1 F1) (b : Step G1 H1 F1 G2 H2 F2) : Step G H F G2 H2 F2 := by
  have old : ∀ x, H1 x = none → x ∈ F ∨ H x = none := fun x e => by
    cases q : H x with
    | none => exact .inr rfl
    | some o =>
      by_cases hx : x ∈ F
      · exact .inl hx
      · rw [a.keep x o q hx] at e; cases e
  refine ⟨a.g.trans b.g, b.h, fun x o q hx => b.keep x o (a.keep x o q hx) fun z => ?_, fun x hx => ?_, fun x o q => ?_, b.nd, b.gn⟩
  · rcases a.sub x z with z | z
    · exact hx z
    · rw [q] at z; cases z
  · rcases b.sub x hx with z | z
    · exact a.sub x z
    · exact old x z
  · rcases b.gsub x o q with z | z | z
    · exact a.gsub x o z
    · rcases a.sub x z with z | z
      · exact .inr (.inl z)
      · exact .inr (.inr z)
    · rcases old x z with z | z
      · exact .inr (.inl z)
      · exact .inr (.inr z)
/-- less is owned (a thing is dropped) -/
theorem Step.less {G H G' H' : Hp} {F F' F2 : List Addr} (a : Step G H F G' H' F') (nd : F2.Nodup) (k : ∀ x ∈ F2, x ∈ F') : Step G H F G' H' F2 :=
  ⟨a.g, a.h, a.keep, fun x hx => a.sub x (k x hx), a.gsub, nd, fun x hx => a.gn x (k x hx)⟩
/-- beside other owned things -/
theorem Step.more {G H G' H' : Hp} {F F' R : List Addr} (a : Step G H F G' H' F') (trk : Trk H R) (gn : ∀ x ∈ R, G x = none) (nd : R.Nodup) (dj : ∀ x ∈ R, x ∉ F) : Step G H (R ++ F) G' H' (R ++ F') := by
  have notNew : ∀ x ∈ R, H x ≠ none := fun x hx e => by
    obtain ⟨o, q⟩ := trk x hx
    rw [q] at e; cases e
  refine ⟨a.g, a.h, fun x o q hx => a.keep x o q fun z => hx (List.mem_append_right _ z), fun x hx => ?_, fun x o q => ?_, ?_, fun x hx => ?_⟩
  · rcases List.mem_append.mp hx with z | z
    · exact .inl (List.mem_append_left _ z)
    · exact (a.sub x z).imp (List.mem_append_right _) id
  · exact (a.gsub x o q).imp id fun z => z.imp (List.mem_append_right _) id
  · refine List.nodup_append.mpr ⟨nd, a.nd, fun x hx y hy e => ?_⟩
    subst e
    rcases a.sub x hy with z | z
    · exact dj x hx z
    · exact notNew x hx z
  · rcases List.mem_append.mp hx with z | z
    · cases q : G' x with
      | none => rfl
      | some o =>
        rcases a.gsub x o q with w | w | w
        · rw [gn x z] at w; cases w
        · exact absurd w (dj x z)
        · exact absurd w (notNew x z)
    · exact a.gn x z
theorem Step.keepR {G H G' H' : Hp} {F F' R : List Addr} (a : Step G H F G' H' F') (dj : ∀ x ∈ R, x ∉ F) : ∀ x ∈ R, ∀ o, H x = some o → H' x = some o := fun x hx o q => a.keep x o q (dj x hx)

/-! ### the slots -/
section
variable (T : Tab) (G H : Hp)
def RpS (d : D) (s : Option V) (F : List Addr) : Prop := (d = .gone ∧ F = []) ∨ ∃ v, s = some v ∧ Rp T G H d v F
def RpE : Env → St → List Addr → Prop
  | [], σ, F => σ = [] ∧ F = []
  | d :: ρ, σ, F => ∃ s τ F1 F2, σ = s :: τ ∧ F = F1 ++ F2 ∧ RpS T G H d s F1 ∧ RpE ρ τ F2
end
section
variable {T : Tab} {G G' H H' : Hp}
theorem RpS.mono {d : D} {s : Option V} {F : List Addr} (hg : Ext G G') (h : RpS T G H d s F) (k : ∀ a ∈ F, ∀ o, H a = some o → H' a = some o) : RpS T G' H' d s F := by
  rcases h with h | ⟨v, e, h⟩
  · exact .inl h
  · exact .inr ⟨v, e, Rp.mono hg d v F h k⟩
theorem RpE.mono (hg : Ext G G') : ∀ {ρ : Env} {σ : St} {F : List Addr}, RpE T G H ρ σ F → (∀ a ∈ F, ∀ o, H a = some o → H' a = some o) → RpE T G' H' ρ σ F
  | [], σ, F, h, _ => h
  | d :: ρ, σ, F, h, k => by
    obtain ⟨s, τ, F1, F2, e, ef, r1, r2⟩ := h
    subst ef
    exact ⟨s, τ, F1, F2, e, rfl, r1.mono hg (fun a ha => k a (List.mem_append_left _ ha)), r2.mono hg (fun a ha => k a (List.mem_append_right _ ha))⟩
theorem RpS.trk {d : D} {s : Option V} {F : List Addr} (h : RpS T G H d s F) : Trk H F := by
  rcases h with ⟨_, rfl⟩ | ⟨v, _, h⟩
  · exact fun _ z => nomatch z
  · exact Rp.trk d v F h
theorem RpE.trk : ∀ {ρ : Env} {σ : St} {F : List Addr}, RpE T G H ρ σ F → Trk H F
  | [], σ, F, h => by obtain ⟨_, rfl⟩ := h; exact fun _ z => nomatch z
  | d :: ρ, σ, F, h => by
    obtain ⟨s, τ, F1, F2, e, ef, r1, r2⟩ := h
    subst ef
    intro a ha
    rcases List.mem_append.mp ha with ha | ha
    · exact r1.trk a ha
    · exact r2.trk a ha
theorem RpE.length : ∀ {ρ : Env} {σ : St} {F : List Addr}, RpE T G H ρ σ F → σ.length = ρ.length
  | [], σ, F, h => by obtain ⟨rfl, _⟩ := h; rfl
  | d :: ρ, σ, F, h => by
    obtain ⟨s, τ, F1, F2, rfl, _, _, r2⟩ := h
    simp only [List.length_cons, r2.length]
theorem RpE.none : ∀ (n : Nat), RpE T G H (List.replicate n .gone) (List.replicate n none) []
  | 0 => ⟨rfl, rfl⟩
  | n + 1 => ⟨_, _, [], [], rfl, rfl, .inl ⟨rfl, rfl⟩, RpE.none n⟩
theorem RpE.append : ∀ {ρ ρ' : Env} {σ σ' : St} {F F' : List Addr}, RpE T G H ρ σ F → RpE T G H ρ' σ' F' → RpE T G H (ρ ++ ρ') (σ ++ σ') (F ++ F')
  | [], _, _, _, _, _, h, k => by obtain ⟨rfl, rfl⟩ := h; exact k
  | d :: ρ, _, _, _, _, F', h, k => by
    obtain ⟨s, τ, F1, F2, rfl, rfl, r1, r2⟩ := h
    exact ⟨s, _, F1, F2 ++ F', rfl, by rw [List.append_assoc], r1, r2.append k⟩
theorem RpE.ofL : ∀ {ds : List D} {vs : List V} {F : List Addr}, RpL T G H ds vs F → RpE T G H ds (vs.map some) F
  | [], _, _, h => by obtain ⟨rfl, rfl⟩ := h; exact ⟨rfl, rfl⟩
  | d :: ds, _, _, h => by
    obtain ⟨v, ws, F1, F2, rfl, rfl, r1, r2⟩ := h
    exact ⟨some v, ws.map some, F1, F2, rfl, rfl, .inr ⟨v, rfl, r1⟩, RpE.ofL r2⟩
/-- one slot, and the others -/
theorem RpE.focus : ∀ {ρ : Env} {σ : St} {F : List Addr} {i : Nat}, RpE T G H ρ σ F → i < ρ.length →
    ∃ s F1 R, σ[i]? = some s ∧ F.Perm (F1 ++ R) ∧ RpS T G H (slot ρ i) s F1 ∧
      ∀ {G' H' : Hp} {d' : D} {s' : Option V} {F1' : List Addr}, Ext G G' → (∀ a ∈ R, ∀ o, H a = some o → H' a = some o) → RpS T G' H' d' s' F1' → ∃ F', F'.Perm (F1' ++ R) ∧ RpE T G' H' (ρ.set i d') (σ.set i s') F'
  | [], _, _, i, _, hi => absurd hi (Nat.not_lt_zero _)
  | d :: ρ, _, _, 0, h, _ => by
    obtain ⟨s, τ, F1, F2, rfl, rfl, r1, r2⟩ := h
    exact ⟨s, F1, F2, rfl, .refl _, r1, fun {G' H' d' s' F1'} hg k r => ⟨F1' ++ F2, .refl _, s', τ, F1', F2, rfl, rfl, r, r2.mono hg k⟩⟩
  | d :: ρ, _, _, i + 1, h, hi => by
    obtain ⟨s, τ, F1, F2, rfl, rfl, r1, r2⟩ := h
    obtain ⟨t, A, R, e, pm, q, k⟩ := RpE.focus r2 (i := i) (Nat.lt_of_succ_lt_succ hi)
    refine ⟨t, A, F1 ++ R, e, ?_, q, fun {G' H' d' s' F1'} hg kk r => ?_⟩
    · refine (pm.append_left F1).trans ?_
      rw [← List.append_assoc, ← List.append_assoc]
      exact (List.perm_append_comm).append_right R
    · obtain ⟨F', pm', r'⟩ := k hg (fun a ha => kk a (List.mem_append_right _ ha)) r
      refine ⟨F1 ++ F', ?_, s, τ.set i s', F1, F', rfl, rfl, r1.mono hg (fun a ha => kk a (List.mem_append_left _ ha)), r'⟩
      refine (pm'.append_left F1).trans ?_
      rw [← List.append_assoc, ← List.append_assoc]
      exact (List.perm_append_comm).append_right R
end

/-! ### places -/
section
variable (T : Tab) (H : Hp)
/-- the values in an owned object -/
def KV : D → V → List V → Prop
  | .lst true _, v, vs => ∃ p, v = .ref p ∧ H p = some (.lst vs)
  | .dct true _ _ _, v, vs => ∃ p kvs, v = .ref p ∧ H p = some (.dK kvs) ∧ vs = kvs.map (·.2)
  | .ins true _ fs _, v, vs => ∃ p dx C, v = .ref p ∧ H p = some (.ins C dx ((fs.map T.fnm).zip vs)) ∧ vs.length = fs.length
  | _, _, _ => False
/-- the value at a path -/
def PV : D → V → List Nat → V → Prop
  | _, v, [], w => v = w
  | d, v, n :: π, w => ∃ vs u, KV T H d v vs ∧ vs[n]? = some u ∧ ∃ xs c, kids d = some xs ∧ xs[n]? = some c ∧ PV c u π w
def VAt (ρ : Env) (σ : St) (i : Nat) (π : List Nat) (w : V) : Prop := ∃ v, σ[i]? = some (some v) ∧ PV T H (slot ρ i) v π w
end
section
variable {T : Tab} {G G' H H' : Hp}
theorem KV.ext (hh : Ext H H') {d : D} {v : V} {vs : List V} (h : KV T H d v vs) : KV T H' d v vs := by
  unfold KV at *
  split at h
  · obtain ⟨p, e, q⟩ := h
    exact ⟨p, e, hh _ _ q⟩
  · obtain ⟨p, kvs, e, q, z⟩ := h
    exact ⟨p, kvs, e, hh _ _ q, z⟩
  · obtain ⟨p, dx, C, e, q, z⟩ := h
    exact ⟨p, dx, C, e, hh _ _ q, z⟩
  · exact h.elim
theorem PV.ext (hh : Ext H H') : ∀ {π : List Nat} {d : D} {v w : V}, PV T H d v π w → PV T H' d v π w
  | [], d, v, w, h => h
  | n :: π, d, v, w, h => by
    obtain ⟨vs, u, k, e, xs, c, e1, e2, h⟩ := h
    exact ⟨vs, u, k.ext hh, e, xs, c, e1, e2, PV.ext hh h⟩
theorem VAt.ext (hh : Ext H H') {ρ : Env} {σ : St} {i : Nat} {π : List Nat} {w : V} (h : VAt T H ρ σ i π w) : VAt T H' ρ σ i π w := by
  obtain ⟨v, e, h⟩ := h
  exact ⟨v, e, h.ext hh⟩
theorem VAt.var {ρ : Env} {σ : St} {i : Nat} {w : V} (h : σ[i]? = some (some w)) : VAt T H ρ σ i [] w := ⟨w, h, rfl⟩
theorem zip_inj {α β : Type} : ∀ {as : List α} {xs ys : List β}, xs.length = as.length → ys.length = as.length → as.zip xs = as.zip ys → xs = ys
  | [], [], [], _, _, _ => rfl
  | a :: as, x :: xs, y :: ys, h1, h2, e => by
    simp only [List.zip_cons_cons, List.cons.injEq, Prod.mk.injEq, true_and] at e
    rw [e.1, zip_inj (by simpa using h1) (by simpa using h2) e.2]
  | [], x :: xs, _, h, _, _ => by simp at h
  | [], [], y :: ys, _, h, _ => by simp at h
  | a :: as, [], _, h, _, _ => by simp at h
  | a :: as, x :: xs, [], _, h, _ => by simp at h
/-- an owned object and its parts; the parts may be changed -/
theorem Rp.parts {d : D} {v : V} {F : List Addr} {xs : List D} (h : Rp T G H d v F) (e : kids d = some xs) :
    ∃ vs own F', KV T H d v vs ∧ F = own ++ F' ∧ RpL T G H xs vs F' ∧
      ∀ {G' H' : Hp} {ys : List D} {F2 : List Addr}, Ext G G' → (∀ a ∈ own, ∀ o, H a = some o → H' a = some o) → ys.length = xs.length → RpL T G' H' ys vs F2 → Rp T G' H' (withKids d ys) v (own ++ F2) ∧ kids (withKids d ys) = some ys := by
  unfold kids at e
  split at e
  · cases e
    obtain ⟨p, vs, F', ev, q, r, ef⟩ := h
    exact ⟨vs, [p], F', ⟨p, ev, q⟩, ef, r, fun {G' H' ys F2} hg k hl r2 => ⟨⟨p, vs, F2, ev, k p (by simp) _ q, r2, rfl⟩, rfl⟩⟩
  · cases e
    obtain ⟨eb, p, kvs, F', ev, ek, r, nd, hz, q, ef⟩ := h
    exact ⟨_, [p], F', ⟨p, kvs, ev, q, rfl⟩, ef, r, fun {G' H' ys F2} hg k hl r2 => ⟨⟨eb, p, kvs, F2, ev, ek, r2, nd, hz, k p (by simp) _ q, rfl⟩, rfl⟩⟩
  · cases e
    obtain ⟨p, dx, vs, F', ev, r, l, nd, lt, ne, q1, q2, ef⟩ := h
    exact ⟨vs, [p, dx], F', ⟨p, dx, _, ev, q1, by rw [r.length, l]⟩, ef, r, fun {G' H' ys F2} hg k hl r2 => ⟨⟨p, dx, vs, F2, ev, r2, by rw [l, hl], nd, lt, ne, k p (by simp) _ q1, k dx (by simp) _ q2, rfl⟩, rfl⟩⟩
  · cases e
theorem KV.uniq {d : D} {v : V} {vs ws : List V} (a : KV T H d v vs) (b : KV T H d v ws) : vs = ws := by
  unfold KV at *
  split at a
  · obtain ⟨p, e, q⟩ := a
    obtain ⟨p', e', q'⟩ := b
    rw [e] at e'
    cases e'
    rw [q] at q'
    cases q'
    rfl
  · obtain ⟨p, kvs, e, q, z⟩ := a
    obtain ⟨p', kvs', e', q', z'⟩ := b
    rw [e] at e'
    cases e'
    rw [q] at q'
    cases q'
    rw [z, z']
  · obtain ⟨p, dx, C, e, q, l⟩ := a
    obtain ⟨p', dx', C', e', q', l'⟩ := b
    rw [e] at e'
    cases e'
    rw [q] at q'
    injection q' with q'
    injection q' with _ _ q'
    exact zip_inj (by simpa using l) (by simpa using l') q'
  · exact a.elim
theorem RpL.focus : ∀ {xs : List D} {vs : List V} {F : List Addr} {n : Nat} {c : D}, RpL T G H xs vs F → xs[n]? = some c →
    ∃ u F1 R, vs[n]? = some u ∧ F.Perm (F1 ++ R) ∧ Rp T G H c u F1 ∧
      ∀ {G' H' : Hp} {c' : D} {F1' : List Addr}, Ext G G' → (∀ a ∈ R, ∀ o, H a = some o → H' a = some o) → Rp T G' H' c' u F1' → ∃ F', F'.Perm (F1' ++ R) ∧ RpL T G' H' (xs.set n c') vs F'
  | [], _, _, n, c, _, e => by simp at e
  | x :: xs, _, _, 0, c, h, e => by
    obtain ⟨v, ws, F1, F2, rfl, rfl, r1, r2⟩ := h
    simp at e
    subst e
    exact ⟨v, F1, F2, rfl, .refl _, r1, fun {G' H' c' F1'} hg k r => ⟨F1' ++ F2, .refl _, v, ws, F1', F2, rfl, rfl, r, RpL.mono hg _ _ _ r2 k⟩⟩
  | x :: xs, _, _, n + 1, c, h, e => by
    obtain ⟨v, ws, F1, F2, rfl, rfl, r1, r2⟩ := h
    obtain ⟨u, A, R, eu, pm, q, k⟩ := RpL.focus r2 (n := n) (c := c) (by simpa using e)
    refine ⟨u, A, F1 ++ R, by simpa using eu, ?_, q, fun {G' H' c' F1'} hg kk r => ?_⟩
    · refine (pm.append_left F1).trans ?_
      rw [← List.append_assoc, ← List.append_assoc]
      exact (List.perm_append_comm).append_right R
    · obtain ⟨F', pm', r'⟩ := k hg (fun a ha => kk a (List.mem_append_right _ ha)) r
      refine ⟨F1 ++ F', ?_, v, ws, F1, F', rfl, rfl, Rp.mono hg _ _ _ r1 (fun a ha => kk a (List.mem_append_left _ ha)), r'⟩
      refine (pm'.append_left F1).trans ?_
      rw [← List.append_assoc, ← List.append_assoc]
      exact (List.perm_append_comm).append_right R
/-- the object at a path, and the rest -/
theorem Rp.focus : ∀ {π : List Nat} {d : D} {v : V} {F : List Addr} {c : D}, Rp T G H d v F → getP d π = some c →
    ∃ u F1 R, PV T H d v π u ∧ F.Perm (F1 ++ R) ∧ Rp T G H c u F1 ∧
      ∀ {G' H' : Hp} {c' : D} {F1' : List Addr}, Ext G G' → (∀ a ∈ R, ∀ o, H a = some o → H' a = some o) → Rp T G' H' c' u F1' → ∃ F', F'.Perm (F1' ++ R) ∧ Rp T G' H' (setP d π c') v F'
  | [], d, v, F, c, h, e => by
    simp only [getP, Option.some.injEq] at e
    subst e
    exact ⟨v, F, [], rfl, by simp, h, fun {G' H' c' F1'} hg k r => ⟨F1', by simp, r⟩⟩
  | n :: π, d, v, F, c, h, e => by
    cases ek : kids d with
    | none => simp [getP, ek] at e
    | some xs =>
      cases en : xs[n]? with
      | none => simp [getP, ek, en] at e
      | some b =>
        have e' : getP b π = some c := by simpa [getP, ek, en] using e
        obtain ⟨vs, own, F', kv, ef, r, put⟩ := h.parts ek
        subst ef
        obtain ⟨u, F1, R, eu, pm, rb, put2⟩ := r.focus en
        obtain ⟨w, A, B, pv, pm2, rc, put3⟩ := Rp.focus rb e'
        refine ⟨w, A, own ++ (B ++ R), ⟨vs, u, kv, eu, xs, b, ek, en, pv⟩, ?_, rc, fun {G' H' c' A'} hg k rc' => ?_⟩
        · refine ((pm.trans (pm2.append_right R)).append_left own).trans ?_
          rw [List.append_assoc A B R]
          exact List.perm_append_comm_assoc ..
        · obtain ⟨F1', q1, rb'⟩ := put3 hg (fun a ha => k a (List.mem_append_right _ (List.mem_append_left _ ha))) rc'
          obtain ⟨F2', q2, r'⟩ := put2 hg (fun a ha => k a (List.mem_append_right _ (List.mem_append_right _ ha))) rb'
          obtain ⟨done, _⟩ := put hg (fun a ha => k a (List.mem_append_left _ ha)) (by simp) r'
          refine ⟨own ++ F2', ?_, by simpa [setP, ek, en] using done⟩
          refine ((q2.trans (q1.append_right R)).append_left own).trans ?_
          rw [List.append_assoc _ B R]
          exact List.perm_append_comm_assoc ..
theorem PV.uniq {d : D} {v : V} {F : List Addr} : ∀ {π : List Nat} {d : D} {v u w : V}, PV T H d v π u → PV T H d v π w → u = w
  | [], d, v, u, w, a, b => a.symm.trans b
  | n :: π, d, v, u, w, a, b => by
    obtain ⟨vs, x, kv, e, xs, c, e1, e2, a⟩ := a
    obtain ⟨vs', x', kv', e', xs', c', e1', e2', b⟩ := b
    rw [e1] at e1'; cases e1'
    rw [e2] at e2'; cases e2'
    have := kv.uniq kv'
    subst this
    rw [e] at e'; cases e'
    exact PV.uniq (d := d) (v := v) (F := F) a b
/-- the object at a place -/
theorem RpE.place {ρ : Env} {σ : St} {F : List Addr} {i : Nat} {π : List Nat} {c : D} {u : V} (h : RpE T G H ρ σ F) (e : getS ρ i π = some c) (va : VAt T H ρ σ i π u) :
    ∃ F1 R, F.Perm (F1 ++ R) ∧ Rp T G H c u F1 ∧
      ∀ {G' H' : Hp} {c' : D} {F1' : List Addr}, Ext G G' → (∀ a ∈ R, ∀ o, H a = some o → H' a = some o) → Rp T G' H' c' u F1' → ∃ F', F'.Perm (F1' ++ R) ∧ RpE T G' H' (setS ρ i π c') σ F' := by
  have e0 : getP (slot ρ i) π = some c ∧ c ≠ .gone := by
    unfold getS at e
    split at e
    · cases e
    · rename_i hne
      refine ⟨e, fun z => ?_⟩
      subst z
      exact hne e
  have hi : i < ρ.length := by
    by_cases q : i < ρ.length
    · exact q
    · exfalso
      have : slot ρ i = .gone := by unfold slot; rw [List.getD_eq_getElem?_getD, List.getElem?_eq_none (by omega)]; rfl
      rw [this] at e0
      cases π with
      | nil => simp only [getP, Option.some.injEq] at e0; exact e0.2 e0.1.symm
      | cons n r => simp [getP, kids] at e0
  obtain ⟨s, A, B, es, pm, rs, put⟩ := h.focus hi
  obtain ⟨v, ev, pv⟩ := va
  rw [es] at ev
  cases ev
  have rd : Rp T G H (slot ρ i) v A := by
    rcases rs with ⟨eg, rfl⟩ | ⟨w, ew, r⟩
    · rw [eg] at e0
      cases π with
      | nil => simp only [getP, Option.some.injEq] at e0; exact absurd e0.1.symm e0.2
      | cons n r => simp [getP, kids] at e0
    · cases ew
      exact r
  obtain ⟨w, F1, R, pv', pm2, rc, put2⟩ := rd.focus e0.1
  have ew := PV.uniq (d := slot ρ i) (v := v) (F := F) pv pv'
  subst ew
  refine ⟨F1, R ++ B, ?_, rc, fun {G' H' c' F1'} hg k rc' => ?_⟩
  · rw [← List.append_assoc]
    exact pm.trans (pm2.append_right B)
  · obtain ⟨F', q1, rd'⟩ := put2 hg (fun a ha => k a (List.mem_append_left _ ha)) rc'
    obtain ⟨F2, q2, re⟩ := put hg (fun a ha => k a (List.mem_append_right _ ha)) (.inr ⟨v, rfl, rd'⟩)
    refine ⟨F2, ?_, ?_⟩
    · rw [← List.append_assoc]
      exact q2.trans (q1.append_right B)
    · have : σ.set i (some v) = σ := List.ext_getElem? fun j => by
        rw [List.getElem?_set]
        split
        · rename_i hj
          subst hj
          split
          · exact es.symm
          · rename_i hn
            rw [List.getElem?_eq_none (by omega)]
        · rfl
      rw [this] at re
      exact re
/-- every place that is known stands somewhere -/
theorem RpE.vat {ρ : Env} {σ : St} {F : List Addr} {i : Nat} {d : D} (h : RpE T G H ρ σ F) (e : slot ρ i = d) (ne : d ≠ .gone) : ∃ v, σ[i]? = some (some v) ∧ i < ρ.length := by
  have hi : i < ρ.length := by
    by_cases q : i < ρ.length
    · exact q
    · exfalso
      have : slot ρ i = .gone := by unfold slot; rw [List.getD_eq_getElem?_getD, List.getElem?_eq_none (by omega)]; rfl
      exact ne (e.symm.trans this)
  obtain ⟨s, A, B, es, pm, rs, put⟩ := h.focus hi
  rcases rs with ⟨eg, _⟩ | ⟨w, ew, r⟩
  · exact absurd (e.symm.trans eg) ne
  · subst ew
    exact ⟨w, es, hi⟩
end
end Mp
/-! What an evaluation leaves; readings by the denotation. -/
namespace Mp
open PySem L2

structure Pre (T : Tab) (G H : Hp) (ρ : Env) (σ : St) (F : List Addr) : Prop where
  ex : Ext G H
  env : RpE T G H ρ σ F
  nd : F.Nodup
  gn : ∀ a ∈ F, G a = none
structure Ev (T : Tab) (G H : Hp) (F : List Addr) (ρ : Env) (σ : St) (o : Option Env) (G' H' : Hp) (Fv F' : List Addr) : Prop where
  step : Step G H F G' H' (Fv ++ F')
  env : RpE T G' H' (now ρ o) σ F'
  calm : o = none → Ext H H' ∧ F' = F
def Tmp (T : Tab) (G H : Hp) (ρ : Env) (σ : St) (a : OV) (v : V) (Fv : List Addr) : Prop := match a with
  | .tm d => Rp T G H d v Fv
  | .pl i π => Fv = [] ∧ VAt T H ρ σ i π v
def OkE (T : Tab) (G H : Hp) (F : List Addr) (ρ : Env) (σ : St) (o : Option Env) (d : D) (v : V) (H' : Hp) : Prop := ∃ G' Fv F', Ev T G H F ρ σ o G' H' Fv F' ∧ Rp T G' H' d v Fv
def OkO (T : Tab) (G H : Hp) (F : List Addr) (ρ : Env) (σ : St) (o : Option Env) (a : OV) (v : V) (H' : Hp) : Prop := ∃ G' Fv F', Ev T G H F ρ σ o G' H' Fv F' ∧ Tmp T G' H' (now ρ o) σ a v Fv
def OkL (T : Tab) (G H : Hp) (F : List Addr) (ρ : Env) (σ : St) (o : Option Env) (ds : List D) (vs : List V) (H' : Hp) : Prop := ∃ G' Fv F', Ev T G H F ρ σ o G' H' Fv F' ∧ RpL T G' H' ds vs Fv
def TmpL (T : Tab) (G H : Hp) (ρ : Env) (σ : St) : List OV → List V → List Addr → Prop
  | [], vs, F => vs = [] ∧ F = []
  | a :: as, vs, F => ∃ v ws F1 F2, vs = v :: ws ∧ F = F1 ++ F2 ∧ Tmp T G H ρ σ a v F1 ∧ TmpL T G H ρ σ as ws F2
def OkOL (T : Tab) (G H : Hp) (F : List Addr) (ρ : Env) (σ : St) (o : Option Env) (as : List OV) (vs : List V) (H' : Hp) : Prop := ∃ G' Fv F', Ev T G H F ρ σ o G' H' Fv F' ∧ TmpL T G' H' (now ρ o) σ as vs Fv
def OkB (T : Tab) (G H : Hp) (F : List Addr) (ρ : Env) (σ : St) (o : Option Env) (H' : Hp) : Prop := ∃ G' F', Ev T G H F ρ σ o G' H' [] F'
/-- what an exception may carry -/
def XOk (T : Tab) (c : Nat) (x : D) : Prop := flat x = true ∧ c < T.nx
/-- an exception is in the air -/
def ExOk (T : Tab) (G H : Hp) (F : List Addr) (ρ' : Env) (σ : St) (c : Nat) (x : D) (H' : Hp) (dd : Addr) : Prop :=
  ∃ G' F', Step G H F G' H' F' ∧ RpE T G' H' ρ' σ F' ∧ ∃ w, G' dd = some (.xd [(T.xf c, w)]) ∧ Rp T G' H' x w [] ∧ XOk T c x
def Post {β : Type} (r : R β) (Φ : β → Prop) (Ξ : Nat → D → Env → Prop) : Prop := match r with
  | .ok b => Φ b
  | .exc c x ρ => Ξ c x ρ
  | .stuck => False
def Xi (T : Tab) (W : WX) (G H : Hp) (F : List Addr) (σ : St) : Nat → D → Env → Prop := fun c x ρ' => ∀ H' dd, ExOk T G H F ρ' σ c x H' dd → W (.ref (T.xa c)) (some dd) σ H'

section
variable {T : Tab} {W : WX} {G G' H H' : Hp} {ρ : Env} {σ : St} {F : List Addr}
theorem Post.bind {α β : Type} {r : R α} {k : α → R β} {Φ : β → Prop} {Ξ : Nat → D → Env → Prop} (h : Post (r.bind k) Φ Ξ) : Post r (fun b => Post (k b) Φ Ξ) Ξ := by
  cases r with
  | ok a => exact h
  | exc c x ρ => exact h
  | stuck => exact h
theorem Post.imp {β : Type} {r : R β} {Φ Φ' : β → Prop} {Ξ Ξ' : Nat → D → Env → Prop} (h : Post r Φ Ξ) (k : ∀ b, Φ b → Φ' b) (kx : ∀ c x ρ, Ξ c x ρ → Ξ' c x ρ) : Post r Φ' Ξ' := by
  cases r with
  | ok a => exact k a h
  | exc c x ρ => exact kx c x ρ h
  | stuck => exact h
theorem Post.ok {β : Type} {r : R β} {Φ : β → Prop} {Ξ : Nat → D → Env → Prop} {b : β} (h : Post r Φ Ξ) (e : r = .ok b) : Φ b := by subst e; exact h

theorem now_none (ρ : Env) : now ρ none = ρ := rfl
theorem now_now (ρ : Env) (o1 o2 : Option Env) : now (now ρ o1) o2 = now ρ (orE o2 o1) := by
  cases o2 with
  | none => rfl
  | some r => rfl
theorem Pre.step0 (P : Pre T G H ρ σ F) : Step G H F G H F := ⟨.refl _, P.ex, fun _ _ h _ => h, fun _ h => .inl h, fun _ _ h => .inl h, P.nd, P.gn⟩
theorem Pre.ev0 (P : Pre T G H ρ σ F) : Ev T G H F ρ σ none G H [] F := ⟨P.step0, P.env, fun _ => ⟨.refl _, rfl⟩⟩
theorem Ev.pre {o : Option Env} {Fv F' : List Addr} (E : Ev T G H F ρ σ o G' H' Fv F') : Pre T G' H' (now ρ o) σ F' :=
  ⟨E.step.h, E.env, (List.nodup_append.mp E.step.nd).2.1, fun a ha => E.step.gn a (List.mem_append_right _ ha)⟩
theorem Ev.nil {o : Option Env} {Fv F' : List Addr} (E : Ev T G H F ρ σ o G' H' Fv F') : Ev T G H F ρ σ o G' H' [] F' :=
  ⟨E.step.less (List.nodup_append.mp E.step.nd).2.1 fun x hx => List.mem_append_right _ hx, E.env, E.calm⟩
/-- some of the new things are let go -/
theorem Ev.drop {o : Option Env} {Fv Fw F' : List Addr} (E : Ev T G H F ρ σ o G' H' Fv F') (nd : Fw.Nodup) (k : ∀ x ∈ Fw, x ∈ Fv) : Ev T G H F ρ σ o G' H' Fw F' := by
  refine ⟨E.step.less ?_ fun x hx => ?_, E.env, E.calm⟩
  · obtain ⟨a, b, c⟩ := List.nodup_append.mp E.step.nd
    exact List.nodup_append.mpr ⟨nd, b, fun x hx y hy => c x (k x hx) y hy⟩
  · rcases List.mem_append.mp hx with z | z
    · exact List.mem_append_left _ (k x z)
    · exact List.mem_append_right _ z
/-- one evaluation behind another: what the first has made stays -/
theorem Ev.trans {G1 H1 G2 H2 : Hp} {o1 o2 : Option Env} {Fv1 F1 Fv2 F2 : List Addr} (a : Ev T G H F ρ σ o1 G1 H1 Fv1 F1) (tr : Trk H1 Fv1) (b : Ev T G1 H1 F1 (now ρ o1) σ o2 G2 H2 Fv2 F2) :
    Ev T G H F ρ σ (orE o2 o1) G2 H2 (Fv1 ++ Fv2) F2 := by
  obtain ⟨n1, n2, n3⟩ := List.nodup_append.mp a.step.nd
  have dj : ∀ x ∈ Fv1, x ∉ F1 := fun x hx hy => n3 x hx x hy rfl
  refine ⟨?_, by rw [← now_now]; exact b.env, fun e => ?_⟩
  · have m := b.step.more tr (fun x hx => a.step.gn x (List.mem_append_left _ hx)) n1 dj
    rw [List.append_assoc]
    exact a.step.trans m
  · cases o2 with
    | some r => cases e
    | none =>
      have e1 : o1 = none := e
      obtain ⟨h1, f1⟩ := a.calm e1
      obtain ⟨h2, f2⟩ := b.calm rfl
      exact ⟨h1.trans h2, f2.trans f1⟩
/-- what the first has made, behind the second -/
theorem Ev.apart {o1 : Option Env} {Fv1 F1 : List Addr} (a : Ev T G H F ρ σ o1 G' H' Fv1 F1) : ∀ x ∈ Fv1, x ∉ F1 := fun x hx hy => (List.nodup_append.mp a.step.nd).2.2 x hx x hy rfl
theorem Ev.keepRp {G2 H2 : Hp} {o2 : Option Env} {Fv2 F2 Fv : List Addr} {d : D} {v : V} (b : Ev T G H F ρ σ o2 G2 H2 Fv2 F2) (r : Rp T G H d v Fv) (dj : ∀ x ∈ Fv, x ∉ F) : Rp T G2 H2 d v Fv :=
  Rp.mono b.step.g d v Fv r (b.step.keepR dj)
theorem Ev.keepRpL {G2 H2 : Hp} {o2 : Option Env} {Fv2 F2 Fv : List Addr} {ds : List D} {vs : List V} (b : Ev T G H F ρ σ o2 G2 H2 Fv2 F2) (r : RpL T G H ds vs Fv) (dj : ∀ x ∈ Fv, x ∉ F) : RpL T G2 H2 ds vs Fv :=
  RpL.mono b.step.g ds vs Fv r (b.step.keepR dj)
theorem Tmp.trk {a : OV} {v : V} {Fv : List Addr} (h : Tmp T G H ρ σ a v Fv) : Trk H Fv := by
  cases a with
  | tm d => exact Rp.trk d v Fv h
  | pl i π =>
    obtain ⟨rfl, _⟩ := h
    exact fun _ z => nomatch z
theorem Ev.keepTmp {G2 H2 : Hp} {o2 : Option Env} {Fv2 F2 Fv : List Addr} {a : OV} {v : V} (b : Ev T G H F ρ σ o2 G2 H2 Fv2 F2) (r : Tmp T G H ρ σ a v Fv) (dj : ∀ x ∈ Fv, x ∉ F) (fm : (a.firm || o2.isNone) = true) :
    Tmp T G2 H2 (now ρ o2) σ a v Fv := by
  cases a with
  | tm d => exact b.keepRp r dj
  | pl i π =>
    obtain ⟨rfl, va⟩ := r
    refine ⟨rfl, ?_⟩
    cases π with
    | nil =>
      obtain ⟨u, e, pv⟩ := va
      exact ⟨u, e, pv⟩
    | cons n π =>
      have e2 : o2 = none := by
        cases o2 with
        | none => rfl
        | some r => cases fm
      subst e2
      exact va.ext (b.calm rfl).1
theorem Xi.mono {F1 : List Addr} {G1 H1 : Hp} (s : Step G H F G1 H1 F1) : ∀ c x ρ', Xi T W G H F σ c x ρ' → Xi T W G1 H1 F1 σ c x ρ' := fun c x ρ' h H' dd ⟨G', F', st, re, q⟩ => h H' dd ⟨G', F', s.trans st, re, q⟩
theorem Xi.ev {o : Option Env} {Fv F1 : List Addr} {G1 H1 : Hp} (E : Ev T G H F ρ σ o G1 H1 Fv F1) : ∀ c x ρ', Xi T W G H F σ c x ρ' → Xi T W G1 H1 F1 σ c x ρ' := Xi.mono E.nil.step

/-! ### the object behind an operand -/
/-- G laid over by what H has at F -/
noncomputable def lay (G H : Hp) (F : List Addr) : Hp := fun a => if a ∈ F then H a else G a
theorem lay_in {F : List Addr} {a : Addr} (h : a ∈ F) : lay G H F a = H a := if_pos h
theorem lay_out {F : List Addr} {a : Addr} (h : a ∉ F) : lay G H F a = G a := if_neg h
theorem lay_ext {F : List Addr} (ex : Ext G H) : Ext G (lay G H F) := fun a o e => by
  by_cases h : a ∈ F
  · rw [lay_in h]; exact ex a o e
  · rw [lay_out h]; exact e
theorem lay_sub {F : List Addr} (ex : Ext G H) : Ext (lay G H F) H := fun a o e => by
  by_cases h : a ∈ F
  · rw [lay_in h] at e; exact e
  · rw [lay_out h] at e; exact ex a o e
theorem lay_get {F : List Addr} : ∀ a ∈ F, ∀ o, H a = some o → lay G H F a = some o := fun a h o e => by rw [lay_in h]; exact e
/-- a value that was made on the way is frozen -/
theorem Ev.freeze {o : Option Env} {Fv Fw F' : List Addr} (E : Ev T G H F ρ σ o G' H' Fv F') (k : ∀ x ∈ Fw, x ∈ Fv) : Ev T G H F ρ σ o (lay G' H' Fw) H' [] F' := by
  obtain ⟨a, b, c⟩ := List.nodup_append.mp E.step.nd
  have out : ∀ x ∈ F', x ∉ Fw := fun x hx hy => c x (k x hy) x hx rfl
  refine ⟨⟨E.step.g.trans (lay_ext E.step.h), lay_sub E.step.h, E.step.keep, fun x hx => E.step.sub x (List.mem_append_right _ hx), fun x o q => ?_, b, fun x hx => ?_⟩, E.env.mono (lay_ext E.step.h) fun _ _ _ q => q, E.calm⟩
  · by_cases h : x ∈ Fw
    · rcases E.step.sub x (List.mem_append_left _ (k x h)) with z | z
      · exact .inr (.inl z)
      · exact .inr (.inr z)
    · rw [lay_out h] at q
      exact E.step.gsub x o q
  · show lay G' H' Fw x = none
    rw [lay_out (out x hx)]
    exact E.step.gn x (List.mem_append_right _ hx)
theorem soft_rp {d d' : D} {v : V} {Fv : List Addr} (e : soft d = some d') (r : Rp T G H d v Fv) (ex : Ext G H) : (d' = d ∧ Rp T G H d' v Fv) ∨ (Rp T (lay G H Fv) H d' v []) := by
  have key : ∀ {x : D}, fzable x = true → Rp T G H x v Fv → Rp T (lay G H Fv) H (fz x) v [] := fun {x} hf rx => Rp.fz (lay_ext ex) x v Fv hf rx lay_get
  unfold soft at e
  split at e
  · split at e
    · cases e; exact .inl ⟨rfl, r⟩
    · split at e
      · cases e; exact .inr (by have := key (x := .lst _ _) (by simpa only [fzable] using ‹_›) r; simpa only [fz] using this)
      · cases e
  · split at e
    · cases e; exact .inl ⟨rfl, r⟩
    · split at e
      · cases e; exact .inr (by have := key (x := .tup _) (by simpa only [fzable] using ‹_›) r; simpa only [fz] using this)
      · cases e
  · split at e
    · cases e; exact .inl ⟨rfl, r⟩
    · split at e
      · cases e; exact .inr (by have := key (x := .dct _ _ _ _) (by simpa only [fzable] using ‹_›) r; simpa only [fz] using this)
      · cases e
  · split at e
    · cases e; exact .inl ⟨rfl, r⟩
    · split at e
      · cases e; exact .inr (by have := key (x := .ins _ _ _ _) (by simpa only [fzable] using ‹_›) r; simpa only [fz] using this)
      · cases e
  · cases e; exact .inl ⟨rfl, r⟩
/-- an operand is read: the ground may have grown by its own parts -/
theorem Tmp.read {a : OV} {d : D} {v : V} {Fv : List Addr} (P : Pre T G H ρ σ F) (t : Tmp T G H ρ σ a v Fv) (e : a.rd ρ = some d) :
    ∃ Fw, (Fw = [] ∨ Fw = Fv) ∧ ∃ Fd, Rp T (lay G H Fw) H d v Fd := by
  cases a with
  | tm x =>
    rcases soft_rp (show soft x = some d from e) t P.ex with ⟨_, r⟩ | r
    · exact ⟨[], .inl rfl, Fv, Rp.mono (lay_ext P.ex) d v Fv r fun _ _ _ q => q⟩
    · exact ⟨Fv, .inr rfl, [], r⟩
  | pl i π =>
    obtain ⟨rfl, va⟩ := t
    obtain ⟨F1, R, _, r, _⟩ := P.env.place (show getS ρ i π = some d from e) va
    exact ⟨[], .inl rfl, F1, Rp.mono (lay_ext P.ex) d v F1 r fun _ _ _ q => q⟩
end

/-! ### readings -/
section
variable (T : Tab) (W : WX)
def tE (den : Env → RE) : TE := fun σ H Q => ∃ G ρ F, Pre T G H ρ σ F ∧ Post (den ρ) (fun (d, o) => ∀ v H', OkE T G H F ρ σ o d v H' → Q v H') (Xi T W G H F σ)
def tO (den : Env → R (OV × Option Env)) : TE := fun σ H Q => ∃ G ρ F, Pre T G H ρ σ F ∧ Post (den ρ) (fun (a, o) => ∀ v H', OkO T G H F ρ σ o a v H' → Q v H') (Xi T W G H F σ)
def tB' (den : Env → R (Bool × Option Env)) : TT := fun σ H Q => ∃ G ρ F, Pre T G H ρ σ F ∧ Post (den ρ) (fun (b, o) => ∀ H', OkB T G H F ρ σ o H' → Q b H') (Xi T W G H F σ)
def tOs (den : Env → R (List OV × Option Env)) : TA := fun σ H Q => ∃ G ρ F, Pre T G H ρ σ F ∧ Post (den ρ) (fun (as, o) => ∀ vs H', OkOL T G H F ρ σ o as vs H' → Q vs H') (Xi T W G H F σ)
def tEs (den : Env → R (List D × Option Env)) : TA := fun σ H Q => ∃ G ρ F, Pre T G H ρ σ F ∧ Post (den ρ) (fun (ds, o) => ∀ vs H', OkL T G H F ρ σ o ds vs H' → Q vs H') (Xi T W G H F σ)
end
theorem _root_.L2.PE.weak {X : Cx} {e : Expr} {t t' : TE} (h : PE X e t) (w : ∀ σ H Q, t' σ H Q → t σ H Q) : PE X e t' := ⟨fun pins s σ H Q I q => h.run pins s σ H Q I (w σ H Q q)⟩
theorem _root_.L2.PT.weak {X : Cx} {e : Expr} {t t' : TT} (h : PT X e t) (w : ∀ σ H Q, t' σ H Q → t σ H Q) : PT X e t' := ⟨fun pins s σ H Q I q => h.run pins s σ H Q I (w σ H Q q)⟩
theorem _root_.L2.PA.weak {X : Cx} {es : List Expr} {t t' : TA} (h : PA X es t) (w : ∀ σ H Q, t' σ H Q → t σ H Q) : PA X es t' := ⟨fun pos pins s σ H Q I q => h.run pos pins s σ H Q I (w σ H Q q)⟩
theorem _root_.L2.PS.weak {X : Cx} {st : Stmt} {t t' : TS} (h : PS X st t) (w : ∀ D σ H, t' D σ H → t D σ H) : PS X st t' := ⟨fun pins s σ H D I q => h.run pins s σ H D I (w D σ H q)⟩
theorem _root_.L2.PSs.weak {X : Cx} {st : List Stmt} {t t' : TS} (h : PSs X st t) (w : ∀ D σ H, t' D σ H → t D σ H) : PSs X st t' := ⟨fun pins s σ H D I q => h.run pins s σ H D I (w D σ H q)⟩
end Mp
/-! Operations on values that are only read. -/
namespace Mp
open PySem L2

/-- wanted of a new thing that is d -/
def New (T : Tab) (G H : Hp) (d : D) (Q : VK) : Prop := ∀ v H' G' Fv, Step G H [] G' H' Fv → Rp T G' H' d v Fv → Q v H'
section
variable {T : Tab} {W : WX} {G G' H H' : Hp} {ρ : Env} {σ : St} {F : List Addr} {d : D} {Q : VK} {v : V}
theorem Step.idle (ex : Ext G H) : Step G H [] G H [] := ⟨.refl _, ex, fun _ _ h _ => h, fun _ h => .inl h, fun _ _ h => .inl h, List.nodup_nil, (fun _ z => (nomatch z))⟩
theorem Step.newO {p : Addr} {o : HO} (ex : Ext G H) (h : H p = none) : Step G H [] G (upd H p o) [p] :=
  ⟨.refl _, ex.trans (.new h), fun a u q _ => Ext.new h a u q, fun a ha => .inr (by rw [List.mem_singleton.mp ha]; exact h), fun _ _ q => .inl q, by simp, fun a ha => by rw [List.mem_singleton.mp ha]; exact ex.back h⟩
theorem ext_upd {p : Addr} {o : HO} (ex : Ext G H) : Ext (upd G p o) (upd H p o) := fun a u q => by
  by_cases e : a = p
  · rw [e, upd_same] at q ⊢; exact q
  · rw [upd_ne e] at q ⊢; exact ex a u q
theorem Step.newS {p : Addr} {o : HO} (ex : Ext G H) (h : H p = none) : Step G H [] (upd G p o) (upd H p o) [] := by
  refine ⟨.new (ex.back h), ext_upd ex, fun a u q _ => Ext.new h a u q, (fun _ z => (nomatch z)), fun a u q => ?_, List.nodup_nil, (fun _ z => (nomatch z))⟩
  by_cases e : a = p
  · exact .inr (.inr (by rw [e]; exact h))
  · rw [upd_ne e] at q; exact .inl q
theorem New.val (ex : Ext G H) (n : New T G H d Q) (r : Rp T G H d v []) : Q v H := n v H G [] (.idle ex) r
theorem New.int {i : Int} (ex : Ext G H) (n : New T G H (.int i) Q) : Q (.int i) H := n.val ex ⟨rfl, rfl⟩
theorem New.bl {b : Bool} (ex : Ext G H) (n : New T G H (.bl b) Q) : Q (.bl b) H := n.val ex ⟨rfl, rfl⟩
theorem New.str {s : Str} (ex : Ext G H) (n : New T G H (.str s) Q) : Q (.str s) H := n.val ex ⟨rfl, rfl⟩
theorem New.non (ex : Ext G H) (n : New T G H .non Q) : Q .non H := n.val ex ⟨rfl, rfl⟩
theorem New.lst {xs : List D} {vs : List V} (ex : Ext G H) (n : New T G H (.lst true xs) Q) (r : RpL T G H xs vs []) {p : Addr} (h : H p = none) : Q (.ref p) (upd H p (.lst vs)) :=
  n _ _ _ _ (.newO ex h) ⟨p, vs, [], rfl, upd_same, RpL.mono (.refl _) xs vs [] r (fun _ z => (nomatch z)), rfl⟩
theorem New.tup {xs : List D} {vs : List V} (ex : Ext G H) (n : New T G H (.tup xs) Q) (r : RpL T G H xs vs []) {p : Addr} (h : H p = none) : Q (.ref p) (upd H p (.tup vs)) :=
  n _ _ _ _ (.newS ex h) ⟨p, vs, rfl, SqT.of upd_same, RpL.mono (.new (ex.back h)) xs vs [] r (fun _ z => (nomatch z))⟩
theorem New.ev {Fv : List Addr} (P : Pre T G H ρ σ F) (s : Step G H [] G' H' Fv) : Ev T G H F ρ σ none G' H' Fv F := by
  have m := s.more (R := F) P.env.trk P.gn P.nd (fun _ _ z => (nomatch z))
  rw [List.append_nil] at m
  refine ⟨m.less ?_ fun x hx => ?_, P.env.mono s.g fun a ha o q => s.keep a o q (fun z => (nomatch z)), fun _ => ⟨fun a o q => s.keep a o q (fun z => (nomatch z)), rfl⟩⟩
  · exact (List.perm_append_comm.nodup_iff).mp m.nd
  · rcases List.mem_append.mp hx with z | z
    · exact List.mem_append_right _ z
    · exact List.mem_append_left _ z
/-- the end of an operation -/
theorem OkE.of {o : Option Env} {F' : List Addr} {G1 H1 : Hp} {Fv : List Addr} (E : Ev T G H F ρ σ o G1 H1 [] F') (s : Step G1 H1 [] G' H' Fv) (r : Rp T G' H' d v Fv) : OkE T G H F ρ σ o d v H' := by
  have e := E.trans ((fun _ z => (nomatch z))) (New.ev E.pre s)
  exact ⟨G', Fv, F', e, r⟩
/-- the parts of what is shared or softened -/
theorem Rp.seq {xs : List D} {Fv : List Addr} (r : Rp T G H d v Fv) (ex : Ext G H) (e : seqOf d = some xs) : ∃ p vs F', v = .ref p ∧ (SqL T.K H p vs ∨ SqT T.K H p vs) ∧ RpL T G H xs vs F' := by
  unfold seqOf at e
  split at e
  · cases e
    rename_i o
    cases o with
    | false =>
      obtain ⟨p, vs, ev, q, r, _⟩ := r
      exact ⟨p, vs, _, ev, .inl (SqL.of (ex _ _ q)), r⟩
    | true =>
      obtain ⟨p, vs, F', ev, q, r, _⟩ := r
      exact ⟨p, vs, _, ev, .inl (SqL.of q), r⟩
  · cases e
    obtain ⟨p, vs, ev, q, r⟩ := r
    exact ⟨p, vs, _, ev, .inr (ex.sqT q), r⟩
  · cases e
theorem Rp.lst {o : Bool} {xs : List D} {Fv : List Addr} (r : Rp T G H (.lst o xs) v Fv) (ex : Ext G H) : ∃ p vs F', v = .ref p ∧ H p = some (.lst vs) ∧ RpL T G H xs vs F' := by
  cases o with
  | false =>
    obtain ⟨p, vs, ev, q, r, _⟩ := r
    exact ⟨p, vs, _, ev, ex _ _ q, r⟩
  | true =>
    obtain ⟨p, vs, F', ev, q, r, _⟩ := r
    exact ⟨p, vs, _, ev, q, r⟩
theorem Rp.tup {xs : List D} {Fv : List Addr} (r : Rp T G H (.tup xs) v Fv) (ex : Ext G H) : ∃ p vs, v = .ref p ∧ SqT T.K H p vs ∧ RpL T G H xs vs Fv := by
  obtain ⟨p, vs, ev, q, r⟩ := r
  exact ⟨p, vs, ev, ex.sqT q, r⟩
theorem Rp.dct {o k : Bool} {ks ds : List D} {Fv : List Addr} (r : Rp T G H (.dct o k ks ds) v Fv) (ex : Ext G H) : k = true ∧ ∃ p kvs F', v = .ref p ∧ ks = kvs.map (fun q => keyD q.1) ∧ RpL T G H ds (kvs.map (·.2)) F' ∧ (kvs.map (·.1)).Nodup ∧ kvs.length ≤ sizeLine ∧ H p = some (.dK kvs) := by
  obtain ⟨eb, p, kvs, F', e, ek, r, nd, hz, q⟩ := r
  cases o with
  | true => exact ⟨eb, p, kvs, F', e, ek, r, nd, hz, q.1⟩
  | false => exact ⟨eb, p, kvs, F', e, ek, r, nd, hz, ex _ _ q.1⟩
theorem Rp.int {i : Int} {Fv : List Addr} (r : Rp T G H (.int i) v Fv) : v = .int i := r.1
theorem Rp.bl {b : Bool} {Fv : List Addr} (r : Rp T G H (.bl b) v Fv) : v = .bl b := r.1
theorem Rp.str {s : Str} {Fv : List Addr} (r : Rp T G H (.str s) v Fv) : v = .str s := r.1
theorem Rp.non {Fv : List Addr} (r : Rp T G H .non v Fv) : v = .non := r.1
end

/-! ### nodes of one, two, many operands -/
section
variable {X : Cx} {T : Tab} {W : WX} {e ea eb : Expr} {da db : Env → R (OV × Option Env)}
/-- what an operation asks of its values, by data -/
def Sem1 (T : Tab) (f : D → Option D) (r : V → Hp → VK → Prop) : Prop := ∀ (G H : Hp) (x d : D) (v : V) (Fv : List Addr) (Q : VK), Ext G H → Rp T G H x v Fv → f x = some d → New T G H d Q → r v H Q
def Sem2 (T : Tab) (f : D → D → Option D) (r : R2) : Prop := ∀ (G H : Hp) (x y d : D) (v u : V) (Fv Fu : List Addr) (Q : VK), Ext G H → Rp T G H x v Fv → Rp T G H y u Fu → f x y = some d → New T G H d Q → r v u H Q
theorem un_ok {r : V → Hp → VK → Prop} {f : D → Option D} (ha : PE X ea (tO T W da)) (mk : ∀ ta, PE X ea ta → PE X e (tUn r ta)) (sem : Sem1 T f r) : PE X e (tE T W fun ρ => (da ρ).bind fun (x, o) => op1 f x o ρ) := by
  refine (mk _ ha).weak fun σ H Q ⟨G, ρ, F, P, h⟩ => ?_
  refine ⟨G, ρ, F, P, h.bind.imp (fun (a, o) h v H1 ⟨G1, Fv, F1, E, t⟩ => ?_) fun _ _ _ z => z⟩
  have h : Post (op1 f a o ρ) _ _ := h
  unfold op1 at h
  cases e1 : a.rd (now ρ o) with
  | none => rw [e1] at h; exact h.elim
  | some d =>
    rw [e1] at h
    have h : Post (ofO (f d) o) _ _ := h
    cases e2 : f d with
    | none => rw [e2] at h; exact h.elim
    | some d' =>
      rw [e2] at h
      obtain ⟨Fw, hw, Fd, rd⟩ := Tmp.read E.pre t e1
      have E2 := E.freeze (Fw := Fw) fun x hx => by
        rcases hw with e | e
        · rw [e] at hx; cases hx
        · rw [e] at hx; exact hx
      exact sem _ _ d d' v Fd Q E2.step.h rd e2 fun v' H' G' Fv' s r' => h v' H' (.of E2 s r')
/-- two operands have been reckoned: what the operation finds -/
theorem two_read {G G1 G2 H H1 H2 : Hp} {ρ : Env} {σ : St} {F F1 F2 Fv Fu : List Addr} {o1 o2 : Option Env} {a b : OV} {x y : D} {v u : V}
    (E1 : Ev T G H F ρ σ o1 G1 H1 Fv F1) (t1 : Tmp T G1 H1 (now ρ o1) σ a v Fv) (E2 : Ev T G1 H1 F1 (now ρ o1) σ o2 G2 H2 Fu F2) (t2 : Tmp T G2 H2 (now (now ρ o1) o2) σ b u Fu)
    (fm : (a.firm || o2.isNone) = true) (ex : a.rd (now (now ρ o1) o2) = some x) (ey : b.rd (now (now ρ o1) o2) = some y) :
    ∃ G3 Fx Fy, Ev T G H F ρ σ (orE o2 o1) G3 H2 [] F2 ∧ Rp T G3 H2 x v Fx ∧ Rp T G3 H2 y u Fy := by
  have E := E1.trans t1.trk E2
  have t1' := E2.keepTmp t1 E1.apart fm
  have P := E2.pre
  obtain ⟨Fw, hw, Fx, rx⟩ := Tmp.read P t1' ex
  obtain ⟨Fz, hz, Fy, ry⟩ := Tmp.read P t2 ey
  have k1 : ∀ q ∈ Fw, q ∈ Fv := fun q hq => by
    rcases hw with e | e
    · rw [e] at hq; cases hq
    · rw [e] at hq; exact hq
  have k2 : ∀ q ∈ Fz, q ∈ Fu := fun q hq => by
    rcases hz with e | e
    · rw [e] at hq; cases hq
    · rw [e] at hq; exact hq
  have E3 := E.freeze (Fw := Fw ++ Fz) fun q hq => by
    rcases List.mem_append.mp hq with z | z
    · exact List.mem_append_left _ (k1 q z)
    · exact List.mem_append_right _ (k2 q z)
  have l1 : Ext (lay G2 H2 Fw) (lay G2 H2 (Fw ++ Fz)) := fun q w e => by
    by_cases hq : q ∈ Fw
    · rw [lay_in hq] at e
      rw [lay_in (List.mem_append_left _ hq)]; exact e
    · rw [lay_out hq] at e
      exact lay_ext P.ex q w e
  have l2 : Ext (lay G2 H2 Fz) (lay G2 H2 (Fw ++ Fz)) := fun q w e => by
    by_cases hq : q ∈ Fz
    · rw [lay_in hq] at e
      rw [lay_in (List.mem_append_right _ hq)]; exact e
    · rw [lay_out hq] at e
      exact lay_ext P.ex q w e
  exact ⟨_, Fx, Fy, E3, Rp.mono l1 x v Fx rx fun _ _ _ q => q, Rp.mono l2 y u Fy ry fun _ _ _ q => q⟩
theorem bi_ok {r : R2} {f : D → D → Option D} (ha : PE X ea (tO T W da)) (hb : PE X eb (tO T W db)) (mk : ∀ ta tb, PE X ea ta → PE X eb tb → PE X e (tOp r ta tb)) (sem : Sem2 T f r) :
    PE X e (tE T W fun ρ => (da ρ).bind fun (x, o1) => (db (now ρ o1)).bind fun (y, o2) => op2 f x y o1 o2 ρ) := by
  refine (mk _ _ ha hb).weak fun σ H Q ⟨G, ρ, F, P, h⟩ => ?_
  refine ⟨G, ρ, F, P, h.bind.imp (fun (a, o1) h v H1 ⟨G1, Fv, F1, E1, t1⟩ => ?_) fun _ _ _ z => z⟩
  refine ⟨G1, now ρ o1, F1, E1.pre, h.bind.imp (fun (b, o2) h u H2 ⟨G2, Fu, F2, E2, t2⟩ => ?_) (Xi.ev E1)⟩
  have h : Post (op2 f a b o1 o2 ρ) _ _ := h
  unfold op2 at h
  cases fm : (a.firm || o2.isNone) with
  | false => rw [fm] at h; exact h.elim
  | true =>
    rw [fm] at h
    cases ex : a.rd (now (now ρ o1) o2) with
    | none => simp only [ex] at h; exact h.elim
    | some x =>
      cases ey : b.rd (now (now ρ o1) o2) with
      | none => simp only [ex, ey] at h; exact h.elim
      | some y =>
        simp only [ex, ey] at h
        cases ef : f x y with
        | none => rw [ef] at h; exact h.elim
        | some d =>
          rw [ef] at h
          obtain ⟨G3, Fx, Fy, E3, rx, ry⟩ := two_read E1 t1 E2 t2 fm ex ey
          exact sem _ _ x y d v u Fx Fy Q E3.step.h rx ry ef fun v' H' G' Fv' s r' => h v' H' (.of E3 s r')
end
end Mp
/-! The operators. -/
namespace Mp
open PySem L2

theorem OpR_or {X : Cx} {f : Value → Value → Sem Value} {r r' : R2} (h : OpR X f r) (h' : OpR X f r') : OpR X f (fun x y H Q => r x y H Q ∨ r' x y H Q) := by
  intro pins s σ H x y v u Q I rx ry q
  rcases q with q | q
  · exact h pins s σ H x y v u Q I rx ry q
  · exact h' pins s σ H x y v u Q I rx ry q
/-- the reading of an operation by data -/
def rOp2 (T : Tab) (f : D → D → Option D) : R2 := fun x y H Q => ∃ G dx dy d Fx Fy, Ext G H ∧ Rp T G H dx x Fx ∧ Rp T G H dy y Fy ∧ f dx dy = some d ∧ New T G H d Q
theorem sem_op2 (T : Tab) (f : D → D → Option D) : Sem2 T f (rOp2 T f) := fun G H x y d v u Fv Fu Q ex rx ry e n => ⟨G, x, y, d, Fv, Fu, ex, rx, ry, e, n⟩
def rOp1 (T : Tab) (f : D → Option D) : V → Hp → VK → Prop := fun x H Q => ∃ G dx d Fx, Ext G H ∧ Rp T G H dx x Fx ∧ f dx = some d ∧ New T G H d Q
theorem sem_op1 (T : Tab) (f : D → Option D) : Sem1 T f (rOp1 T f) := fun G H x d v Fv Q ex rx e n => ⟨G, x, d, Fv, ex, rx, e, n⟩
def Op.py : Op → Operator
  | .add => .Add | .sub => .Sub | .mul => .Mult | .fdiv => .FloorDiv | .mod => .Mod | .pow => .Pow | .shl => .LShift | .shr => .RShift | .band => .BitAnd | .bor => .BitOr | .bxor => .BitXor
def Cp.py : Cp → CmpOp
  | .eq => .Eq | .ne => .NotEq | .lt => .Lt | .le => .LtE | .gt => .Gt | .ge => .GtE | .is_ => .Is | .isnot => .IsNot | .in_ => .In | .notin => .NotIn
theorem line_eq : line = sizeLine := by rw [sizeLine_eq]; rfl
section
variable {X : Cx} {T : Tab}
theorem bin_int {op : Op} {i j : Int} {d : D} {G H : Hp} {Q : VK} (ex : Ext G H) (e : binI op i j = some d) (n : New T G H d Q)
    {pins : List (Addr × Obj)} {s : Shared} {σ : St} {v u : Value} (I : Inv X pins σ H s) (rx : RelV (.int i) v) (ry : RelV (.int j) u) : wpAny (model X.prog X.w) X.A (binaryOp op.py v u) (EP X pins σ Q) X.xe s := by
  unfold binI at e
  cases op with
  | add => cases e; exact op_add pins s σ H _ _ v u Q I rx ry ⟨i, j, rfl, rfl, n.int ex⟩
  | sub => cases e; exact op_sub pins s σ H _ _ v u Q I rx ry ⟨i, j, rfl, rfl, n.int ex⟩
  | mul =>
    simp only at e
    split at e
    · rename_i h
      cases e
      refine op_mul pins s σ H _ _ v u Q I rx ry ⟨i, j, rfl, rfl, ?_, n.int ex⟩
      simp only [Bool.or_eq_true, small64_eq, Bool.and_eq_true, decide_eq_true_eq] at h
      unfold CMul
      rcases h with h | h
      · left; constructor <;> omega
      · right; constructor <;> omega
    · cases e
  | fdiv =>
    simp only at e
    split at e
    · rename_i h
      cases e
      simp only [Bool.and_eq_true, decide_eq_true_eq] at h
      exact op_fdivN pins s σ H _ _ v u Q I rx ry ⟨i, j, rfl, rfl, h, n.int ex⟩
    · cases e
  | mod =>
    simp only at e
    split at e
    · rename_i h
      cases e
      simp only [decide_eq_true_eq] at h
      exact op_modN pins s σ H _ _ v u Q I rx ry ⟨i, j, rfl, rfl, h, n.int ex⟩
    · cases e
  | pow =>
    simp only at e
    split at e
    · rename_i h
      cases e
      simp only [Bool.and_eq_true, decide_eq_true_eq] at h
      refine op_pow pins s σ H _ _ v u Q I rx ry ⟨i, j, rfl, rfl, ⟨h.1.1, h.1.2, ?_⟩, n.int ex⟩
      have := h.2
      omega
    · cases e
  | shl =>
    simp only at e
    split at e
    · rename_i h
      cases e
      simp only [Bool.and_eq_true, decide_eq_true_eq] at h
      refine op_shl pins s σ H _ _ v u Q I rx ry ⟨i, j, rfl, rfl, ⟨h.1.1, h.1.2, ?_⟩, n.int ex⟩
      have := h.2
      omega
    · cases e
  | shr =>
    simp only at e
    split at e
    · rename_i h
      cases e
      simp only [decide_eq_true_eq] at h
      exact op_shr pins s σ H _ _ v u Q I rx ry ⟨i, j, rfl, rfl, h, n.int ex⟩
    · cases e
  | band => cases e
  | bor => cases e
  | bxor => cases e
theorem append_nilD {xs : List D} {vs : List V} {G H : Hp} (r : RpL T G H xs vs []) (e : vs = []) : xs = [] := by
  subst e
  cases xs with
  | nil => rfl
  | cons x xs => obtain ⟨v, ws, _, _, q, _⟩ := r; cases q
theorem or_bin (hK : X.K = T.K) (op : Op) : OpR X (binaryOp op.py) (rOp2 T (binD op)) := by
  intro pins s σ H x y v u Q I rx ry ⟨G, dx, dy, d, Fx, Fy, ex, qx, qy, e, n⟩
  unfold binD at e
  split at e
  · cases qx.int; cases qy.int; exact bin_int ex e n I rx ry
  · cases qx.int; cases qy.bl
    split at e
    · cases e
      exact op_add_ib pins s σ H _ _ v u Q I rx ry ⟨_, _, rfl, rfl, n.int ex⟩
    · cases e
  · split at e
    · split at e
      · rename_i h
        cases e
        simp only [Bool.and_eq_true, decide_eq_true_eq] at h
        obtain ⟨⟨h1, h2⟩, h3⟩ := h
        obtain ⟨p, vs, F1, rfl, hp, r1⟩ := qx.lst ex
        obtain ⟨q, ws, F2, rfl, hq, r2⟩ := qy.lst ex
        refine op_cat pins s σ H _ _ v u Q I rx ry ⟨p, q, vs, ws, rfl, rfl, hp, hq, by rw [r1.length, r2.length, ← line_eq]; exact h3, fun a ha => ?_⟩
        exact n.lst ex ((RpL.sh h1 r1 (.refl G)).append (RpL.sh h2 r2 (.refl G))) ha
      · cases e
    · cases e
  · split at e
    · split at e
      · rename_i h
        cases e
        simp only [Bool.and_eq_true, decide_eq_true_eq] at h
        obtain ⟨⟨h1, h2⟩, h3⟩ := h
        obtain ⟨p, vs, rfl, hp, r1⟩ := qx.tup ex
        obtain ⟨q, ws, rfl, hq, r2⟩ := qy.tup ex
        have s1 := RpL.sh h1 r1 (H' := H) (.refl G)
        have s2 := RpL.sh h2 r2 (H' := H) (.refl G)
        refine op_catA pins s σ H _ _ v u Q I rx ry ⟨p, q, vs, ws, rfl, rfl, by rw [hK]; exact hp, by rw [hK]; exact hq, by rw [r1.length, r2.length, ← line_eq]; exact h3, fun z => ?_, fun _ z => ?_, fun _ _ a ha => ?_⟩
        · have := append_nilD s1 z
          subst this
          have e2 := RpL.sh_nil _ _ _ h2 r2
          subst e2
          exact n.val ex qy
        · have := append_nilD s2 z
          subst this
          have e2 := RpL.sh_nil _ _ _ h1 r1
          subst e2
          exact n.val ex (by rw [List.append_nil]; exact qx)
        · exact n.tup ex (s1.append s2) ha
      · cases e
    · cases e
  · split at e
    · split at e
      · rename_i h
        cases e
        simp only [Bool.and_eq_true, decide_eq_true_eq] at h
        obtain ⟨⟨⟨h1, h2⟩, h3⟩, h4⟩ := h
        obtain ⟨p, vs, F1, rfl, hp, r1⟩ := qx.lst ex
        cases qy.int
        have s1 := RpL.sh h1 r1 (H' := H) (.refl G)
        have b1 : two62 = 4611686018427387904 := rfl
        refine op_rep pins s σ H _ _ v u Q I rx ry ⟨p, _, vs, rfl, rfl, hp, by omega, by omega, by rw [r1.length, ← line_eq]; exact h4, fun a ha => ?_⟩
        have rep : ∀ k : Nat, RpL T G H (List.replicate k _).flatten (List.replicate k vs).flatten [] := fun k => by
          induction k with
          | zero => exact ⟨rfl, rfl⟩
          | succ k ih =>
            rw [List.replicate_succ, List.replicate_succ, List.flatten_cons, List.flatten_cons]
            exact s1.append ih
        exact n.lst ex (rep _) ha
      · cases e
    · cases e
  · cases qx.str; cases qy.str
    split at e
    · split at e
      · rename_i h
        cases e
        simp only [decide_eq_true_eq] at h
        exact op_add_str pins s σ H _ _ v u Q I rx ry ⟨_, _, rfl, rfl, by rw [← line_eq]; exact h, n.str ex⟩
      · cases e
    · cases e
  · cases e
end

/-! ### == -/
mutual
def toPy : D → PyData
  | .bl b => .bool b | .int i => .int i | .str s => .str s
  | .tup xs => .tuple (toPyL xs)
  | .lst _ xs => .list (toPyL xs)
  | _ => .none
def toPyL : List D → List PyData
  | [] => []
  | x :: xs => toPy x :: toPyL xs
end
mutual
theorem eqD_py : ∀ (n m : Nat) (a b : D), okD n a = true → okD m b = true → eqD a b = PyData.eqv (toPy a) (toPy b)
  | n, m, a, b, ha, hb => by
    cases a <;> cases b <;> first
      | rfl
      | (simp [okD] at ha; done)
      | (simp [okD] at hb; done)
      | (rename_i xs ys
         cases n with
         | zero => simp [okD] at ha
         | succ n =>
           cases m with
           | zero => simp [okD] at hb
           | succ m =>
             simp only [eqD, toPy, PyData.eqv]
             exact eqL_py n m xs ys (by simpa only [okD] using ha) (by simpa only [okD] using hb))
      | (rename_i o xs o2 ys
         cases n with
         | zero => simp [okD] at ha
         | succ n =>
           cases m with
           | zero => simp [okD] at hb
           | succ m =>
             simp only [eqD, toPy, PyData.eqv]
             exact eqL_py n m xs ys (by simpa only [okD] using ha) (by simpa only [okD] using hb))
theorem eqL_py : ∀ (n m : Nat) (xs ys : List D), okL n xs = true → okL m ys = true → eqL xs ys = PyData.eqvAll (toPyL xs) (toPyL ys)
  | n, m, [], [], _, _ => rfl
  | n, m, [], y :: ys, _, _ => rfl
  | n, m, x :: xs, [], _, _ => rfl
  | n, m, x :: xs, y :: ys, ha, hb => by
    have a' : okD n x = true ∧ okL n xs = true := by simpa only [okL, Bool.and_eq_true] using ha
    have b' : okD m y = true ∧ okL m ys = true := by simpa only [okL, Bool.and_eq_true] using hb
    simp only [eqL, toPyL, PyData.eqvAll]
    rw [eqD_py n m x y a'.1 b'.1, eqL_py n m xs ys a'.2 b'.2]
end
end Mp
namespace Mp
open PySem L2
mutual
theorem canLay_py : ∀ (n : Nat) (a : D), okD n a = true → (toPy a).canLay0 = true ∧ (toPy a).depth ≤ n
  | n, .non, _ => ⟨rfl, Nat.zero_le _⟩
  | n, .bl b, _ => ⟨rfl, Nat.zero_le _⟩
  | n, .int i, _ => ⟨rfl, Nat.zero_le _⟩
  | n, .str s, h => ⟨by
      have h : (s.cps.all fun c => decide (c < 0x110000)) = true := by simpa only [okD] using h
      simpa only [toPy, PyData.canLay0, PyData.strOk] using h, Nat.zero_le _⟩
  | 0, .tup xs, h => by simp [okD] at h
  | 0, .lst o xs, h => by simp [okD] at h
  | n + 1, .tup xs, h => by
    obtain ⟨h1, h2⟩ := canLayL_py n xs (by simpa only [okD] using h)
    exact ⟨by simpa only [toPy, PyData.canLay0] using h1, by simp only [toPy, PyData.depth]; omega⟩
  | n + 1, .lst o xs, h => by
    obtain ⟨h1, h2⟩ := canLayL_py n xs (by simpa only [okD] using h)
    exact ⟨by simpa only [toPy, PyData.canLay0] using h1, by simp only [toPy, PyData.depth]; omega⟩
  | n, .scr ns, h => by cases n <;> simp [okD] at h
  | n, .dct o k ks vs, h => by cases n <;> simp [okD] at h
  | n, .ins o c fs vs, h => by cases n <;> simp [okD] at h
  | n, .gone, h => by cases n <;> simp [okD] at h
theorem canLayL_py : ∀ (n : Nat) (xs : List D), okL n xs = true → PyData.canLayAll0 (toPyL xs) = true ∧ PyData.depthAll (toPyL xs) ≤ n
  | n, [], _ => ⟨rfl, Nat.zero_le _⟩
  | n, x :: xs, h => by
    have h' : okD n x = true ∧ okL n xs = true := by simpa only [okL, Bool.and_eq_true] using h
    obtain ⟨a1, a2⟩ := canLay_py n x h'.1
    obtain ⟨b1, b2⟩ := canLayL_py n xs h'.2
    refine ⟨by simp only [toPyL, PyData.canLayAll0, a1, b1, Bool.and_self], ?_⟩
    simp only [toPyL, PyData.depthAll]
    omega
end
theorem shaped_py {n : Nat} {a : D} (h : okD n a = true) (hn : n ≤ 64) : SeqAt.shaped (toPy a) = true := by
  obtain ⟨h1, h2⟩ := canLay_py n a h
  unfold SeqAt.shaped
  rw [h1, Bool.true_and]
  exact decide_eq_true (Nat.le_trans h2 hn)
theorem shapedL_py {n : Nat} {xs : List D} (h : okL n xs = true) (hn : n < 64) : SeqAt.shaped (.list (toPyL xs)) = true := by
  obtain ⟨h1, h2⟩ := canLayL_py n xs h
  unfold SeqAt.shaped
  have e1 : (PyData.list (toPyL xs)).canLay0 = true := by simpa only [PyData.canLay0] using h1
  have e2 : (PyData.list (toPyL xs)).depth ≤ 64 := by simp only [PyData.depth]; omega
  rw [e1, Bool.true_and]
  exact decide_eq_true e2
section
variable {T : Tab} {G H : Hp}
mutual
theorem Rp.dp (ex : Ext G H) : ∀ (n : Nat) (d : D) (v : V) (F : List Addr), okD n d = true → Rp T G H d v F → Dp T.K H v (toPy d)
  | n, .non, v, F, _, h => by rw [h.non]; exact .non
  | n, .bl b, v, F, _, h => by rw [h.bl]; exact .bl b
  | n, .int i, v, F, _, h => by rw [h.int]; exact .int i
  | n, .str s, v, F, _, h => by rw [h.str]; exact .str s
  | 0, .tup xs, v, F, h, _ => by simp [okD] at h
  | 0, .lst o xs, v, F, h, _ => by simp [okD] at h
  | n + 1, .tup xs, v, F, h, r => by
    obtain ⟨p, vs, rfl, q, r⟩ := r.tup ex
    exact .tup q (RpL.dp ex n xs vs F (by simpa only [okD] using h) r)
  | n + 1, .lst o xs, v, F, h, r => by
    obtain ⟨p, vs, F', rfl, q, r⟩ := r.lst ex
    exact .lst (SqL.of q) (RpL.dp ex n xs vs F' (by simpa only [okD] using h) r)
  | n, .scr ns, v, F, h, _ => by cases n <;> simp [okD] at h
  | n, .dct o k ks vs, v, F, h, _ => by cases n <;> simp [okD] at h
  | n, .ins o c fs vs, v, F, h, _ => by cases n <;> simp [okD] at h
  | n, .gone, v, F, h, _ => by cases n <;> simp [okD] at h
theorem RpL.dp (ex : Ext G H) : ∀ (n : Nat) (xs : List D) (vs : List V) (F : List Addr), okL n xs = true → RpL T G H xs vs F → DpAll T.K H vs (toPyL xs)
  | n, [], vs, F, _, h => by obtain ⟨rfl, _⟩ := h; exact .nil
  | n, x :: xs, vs, F, s, h => by
    obtain ⟨v, ws, F1, F2, rfl, rfl, r1, r2⟩ := h
    have h' : okD n x = true ∧ okL n xs = true := by simpa only [okL, Bool.and_eq_true] using s
    exact .cons (Rp.dp ex n x v F1 h'.1 r1) (RpL.dp ex n xs ws F2 h'.2 r2)
end
theorem memD_py (n m : Nat) (x : D) (hx : okD n x = true) : ∀ ys : List D, okL m ys = true → memD x ys = (toPyL ys).any fun z => PyData.eqv z (toPy x)
  | [], _ => rfl
  | y :: ys, h => by
    have h' : okD m y = true ∧ okL m ys = true := by simpa only [okL, Bool.and_eq_true] using h
    simp only [memD, toPyL, List.any_cons]
    rw [eqD_py m n y x h'.1 hx, memD_py n m x hx ys h'.2]
/-- flat things -/
theorem Rp.flat {d : D} {v : V} {F : List Addr} (h : flat d = true) (r : Rp T G H d v F) : flatV v = true := by
  cases d with
  | non => rw [r.non]; rfl
  | bl b => rw [r.bl]; rfl
  | int i => rw [r.int]; rfl
  | str s => rw [r.str]; rfl
  | _ => simp [Mp.flat] at h
theorem eqD_flat {a b : D} {v u : V} {F F' : List Addr} (ha : flat a = true) (hb : Mp.flat b = true) (r : Rp T G H a v F) (q : Rp T G H b u F') : eqD a b = eqV v u := by
  cases a with
  | non =>
    rw [r.non]
    cases b with
    | non => rw [q.non]; rfl
    | bl b => rw [q.bl]; rfl
    | int i => rw [q.int]; rfl
    | str s => rw [q.str]; rfl
    | _ => simp [Mp.flat] at hb
  | bl x =>
    rw [r.bl]
    cases b with
    | non => rw [q.non]; rfl
    | bl b => rw [q.bl]; rfl
    | int i => rw [q.int]; rfl
    | str s => rw [q.str]; rfl
    | _ => simp [Mp.flat] at hb
  | int x =>
    rw [r.int]
    cases b with
    | non => rw [q.non]; rfl
    | bl b => rw [q.bl]; rfl
    | int i => rw [q.int]; rfl
    | str s => rw [q.str]; rfl
    | _ => simp [Mp.flat] at hb
  | str x =>
    rw [r.str]
    cases b with
    | non => rw [q.non]; rfl
    | bl b => rw [q.bl]; rfl
    | int i => rw [q.int]; rfl
    | str s => rw [q.str]; rfl
    | _ => simp [Mp.flat] at hb
  | _ => simp [Mp.flat] at ha
theorem memD_flat {x : D} {v : V} {F : List Addr} (hx : Mp.flat x = true) (r : Rp T G H x v F) : ∀ {ys : List D} {vs : List V} {Fs : List Addr}, ys.all Mp.flat = true → RpL T G H ys vs Fs → memD x ys = inV v vs ∧ vs.all flatV = true
  | [], vs, Fs, _, h => by obtain ⟨rfl, _⟩ := h; exact ⟨rfl, rfl⟩
  | y :: ys, vs, Fs, s, h => by
    obtain ⟨w, ws, F1, F2, rfl, rfl, r1, r2⟩ := h
    have h' : Mp.flat y = true ∧ ys.all Mp.flat = true := by simpa only [List.all_cons, Bool.and_eq_true] using s
    obtain ⟨m1, m2⟩ := memD_flat hx r h'.2 r2
    refine ⟨?_, ?_⟩
    · simp only [memD]
      rw [eqD_flat h'.1 hx r1 r, m1]
      unfold inV
      rw [List.any_cons]
    · rw [List.all_cons, r1.flat h'.1, m2]; rfl
end
section
variable {X : Cx} {T : Tab}
theorem ltI_lex : ∀ xs ys : List Int, ltI xs ys = HT.lexLt xs ys
  | [], [] => rfl
  | [], _ :: _ => rfl
  | _ :: _, [] => rfl
  | a :: as, b :: bs => by
    unfold ltI HT.lexLt
    rw [ltI_lex as bs]
    first
      | rfl
      | (by_cases h : a = b
         · subst h; simp
         · by_cases h2 : a < b
           · simp [h, h2]
           · simp [h, h2])
end


/-! ### keys of dicts -/
def keyOf : D → Option Key
  | .int i => some (.inl i)
  | .str s => some (.inr s)
  | _ => none
theorem keyOk_of {d : D} (h : keyOk true d = true) : ∃ k, keyOf d = some k ∧ d = keyD k := by
  cases d with
  | int i => exact ⟨.inl i, rfl, rfl⟩
  | str s => exact ⟨.inr s, rfl, rfl⟩
  | tup xs => simp [keyOk] at h
  | _ => simp [keyOk] at h
theorem Rp.key {T : Tab} {G H : Hp} {k : Key} {v : V} {F : List Addr} (r : Rp T G H (keyD k) v F) : v = kV k := by
  cases k with
  | inl i => exact r.int
  | inr s => exact r.str
theorem eqD_key (j k : Key) : eqD (keyD j) (keyD k) = decide (j = k) := by
  cases j with
  | inl i =>
    cases k with
    | inl j =>
      simp only [keyD, eqD]
      by_cases h : i = j
      · subst h; simp
      · have : ¬ (Sum.inl i : Key) = Sum.inl j := fun z => h (Sum.inl.inj z)
        simp [h]
    | inr t => simp [keyD, eqD]
  | inr s =>
    cases k with
    | inl j => simp [keyD, eqD]
    | inr t =>
      simp only [keyD, eqD]
      by_cases h : s = t
      · subst h; simp
      · simp [h]
theorem memD_key (k : Key) : ∀ kvs : List (Key × V), memD (keyD k) (kvs.map fun q => keyD q.1) = (valV kvs k).isSome
  | [] => rfl
  | p :: r => by
    simp only [List.map_cons, memD]
    rw [eqD_key, memD_key k r]
    by_cases h : p.1 = k
    · rw [valV_pos h, decide_eq_true h]; rfl
    · rw [valV_neg h, decide_eq_false h]; rfl
theorem findD_key (k : Key) : ∀ kvs : List (Key × V), (findD (keyD k) (kvs.map fun q => keyD q.1) = none ∧ valV kvs k = none) ∨ ∃ n p, findD (keyD k) (kvs.map fun q => keyD q.1) = some n ∧ kvs[n]? = some p ∧ p.1 = k ∧ valV kvs k = some p.2
  | [] => .inl ⟨rfl, rfl⟩
  | p :: r => by
    simp only [List.map_cons, findD]
    rw [eqD_key]
    by_cases h : p.1 = k
    · refine .inr ⟨0, p, by rw [if_pos (decide_eq_true h)], rfl, h, valV_pos h⟩
    · rw [if_neg (by simpa using h)]
      rcases findD_key k r with ⟨h1, h2⟩ | ⟨n, q, h1, h2, h3, h4⟩
      · exact .inl ⟨by rw [h1]; rfl, by rw [valV_neg h]; exact h2⟩
      · exact .inr ⟨n + 1, q, by rw [h1]; rfl, by simpa using h2, h3, by rw [valV_neg h]; exact h4⟩

/-! ### comparisons -/
section
variable {X : Cx} {T : Tab}
theorem cmp_in (hK : X.K = T.K) (hu : X.A.units + 65 < cLine) {neg : Bool} {dx dy : D} {b : Bool} {x y : V} {G H : Hp} {Fx Fy : List Addr} {Q : VK} (ex : Ext G H) (qx : Rp T G H dx x Fx) (qy : Rp T G H dy y Fy)
    (e : cmpD .in_ dx dy = some (.bl b)) (n : Q (.bl (if neg then !b else b)) H) {pins : List (Addr × Obj)} {s : Shared} {σ : St} {v u : Value} (I : Inv X pins σ H s) (rx : RelV x v) (ry : RelV y u) :
    wpAny (model X.prog X.w) X.A (compareOp (if neg then .NotIn else .In) v u) (EP X pins σ Q) X.xe s := by
  unfold cmpD at e
  simp only at e
  split at e
  · split at e
    · rename_i o ys h
      cases e
      simp only [Bool.and_eq_true] at h
      obtain ⟨p, vs, F1, rfl, hp, r1⟩ := qy.lst ex
      have dpx := Rp.dp ex 64 _ _ _ h.1 qx
      have dpl := RpL.dp ex 63 _ _ _ h.2 r1
      have dpy : Dp T.K H (.ref p) (.list (toPyL ys)) := .lst (SqL.of hp) dpl
      have em := memD_py 64 63 dx h.1 ys h.2
      rw [em] at n
      cases neg with
      | true => exact op_notInD hu pins s σ H _ _ v u Q I rx ry ⟨_, _, by rw [hK]; exact dpx, by rw [hK]; exact dpy, shaped_py h.1 (Nat.le_refl _), shapedL_py h.2 (by omega), n⟩
      | false => exact op_inD hu pins s σ H _ _ v u Q I rx ry ⟨_, _, by rw [hK]; exact dpx, by rw [hK]; exact dpy, shaped_py h.1 (Nat.le_refl _), shapedL_py h.2 (by omega), n⟩
    · cases e
  · split at e
    · rename_i ys h
      cases e
      simp only [Bool.and_eq_true] at h
      obtain ⟨p, vs, rfl, hp, r1⟩ := qy.tup ex
      obtain ⟨m1, m2⟩ := memD_flat h.1 qx h.2 r1
      rw [m1] at n
      cases neg with
      | true => exact op_notIn_seq pins s σ H _ _ v u Q I rx ry ⟨p, vs, rfl, .inr (by rw [hK]; exact hp), qx.flat h.1, m2, n⟩
      | false => exact op_in_seq pins s σ H _ _ v u Q I rx ry ⟨p, vs, rfl, .inr (by rw [hK]; exact hp), qx.flat h.1, m2, n⟩
    · cases e
  · split at e
    · rename_i o k ks ds h
      cases e
      obtain ⟨ek, p, kvs, F', rfl, eks, r1, nd, hz, hp⟩ := qy.dct ex
      subst ek
      obtain ⟨k, _, ed⟩ := keyOk_of h
      subst ed
      have hx := qx.key
      subst hx
      subst eks
      rw [memD_key] at n
      cases (show u = Value.ref p from ry)
      have g : DGet H p (kV k) (valV kvs k) := .k hp
      cases neg with
      | true => exact d_notIn (by omega) I g rx fun s3 I3 => ⟨.bl _, H, I3, rfl, n⟩
      | false => exact d_in (by omega) I g rx fun s3 I3 => ⟨.bl _, H, I3, rfl, n⟩
    · cases e
  · cases e
theorem cmp_notin_of {dx dy d : D} (e : cmpD .notin dx dy = some d) : ∃ b, cmpD .in_ dx dy = some (.bl b) ∧ d = .bl (!b) := by
  unfold cmpD at *
  simp only at *
  split at e <;> first
    | (split at e
       · rename_i h
         cases e
         simp only [h, if_true]
         exact ⟨_, rfl, rfl⟩
       · cases e)
    | cases e
theorem or_cmp (hK : X.K = T.K) (hu : X.A.units + 65 < cLine) (op : Cp) : OpR X (compareOp op.py) (rOp2 T (cmpD op)) := by
  intro pins s σ H x y v u Q I rx ry ⟨G, dx, dy, d, Fx, Fy, ex, qx, qy, e, n⟩
  cases op with
  | eq =>
    simp only [cmpD] at e
    split at e
    · rename_i h
      cases e
      simp only [Bool.and_eq_true, okEq] at h
      have n' := n.bl ex
      rw [eqD_py 64 64 _ _ h.1 h.2] at n'
      exact op_eqD (by omega) pins s σ H _ _ v u Q I rx ry ⟨_, _, by rw [hK]; exact Rp.dp ex 64 _ _ _ h.1 qx, by rw [hK]; exact Rp.dp ex 64 _ _ _ h.2 qy, shaped_py h.1 (Nat.le_refl _), shaped_py h.2 (Nat.le_refl _), n'⟩
    · cases e
  | ne =>
    simp only [cmpD] at e
    split at e
    · rename_i h
      cases e
      simp only [Bool.and_eq_true, okEq] at h
      have n' := n.bl ex
      rw [eqD_py 64 64 _ _ h.1 h.2] at n'
      exact op_neD (by omega) pins s σ H _ _ v u Q I rx ry ⟨_, _, by rw [hK]; exact Rp.dp ex 64 _ _ _ h.1 qx, by rw [hK]; exact Rp.dp ex 64 _ _ _ h.2 qy, shaped_py h.1 (Nat.le_refl _), shaped_py h.2 (Nat.le_refl _), n'⟩
    · cases e
  | lt =>
    simp only [cmpD] at e
    split at e
    · cases e
      cases qx.int; cases qy.int
      exact op_lt pins s σ H _ _ v u Q I rx ry ⟨_, _, rfl, rfl, n.bl ex⟩
    · split at e
      · rename_i a b ea eb
        cases e
        obtain ⟨p, vs, rfl, hp, r1⟩ := qx.tup ex
        obtain ⟨q, ws, rfl, hq, r2⟩ := qy.tup ex
        have e1 := RpL.toI r1 ea
        have e2 := RpL.toI r2 eb
        subst e1 e2
        have n' := n.bl ex
        rw [ltI_lex] at n'
        exact op_ltT (by omega) pins s σ H _ _ v u Q I rx ry ⟨p, q, a, b, rfl, rfl, by rw [hK]; exact hp, by rw [hK]; exact hq, n'⟩
      · cases e
    · cases e
  | le =>
    simp only [cmpD] at e
    split at e
    · cases e
      cases qx.int; cases qy.int
      exact op_le pins s σ H _ _ v u Q I rx ry ⟨_, _, rfl, rfl, n.bl ex⟩
    · cases e
  | gt =>
    simp only [cmpD] at e
    split at e
    · cases e
      cases qx.int; cases qy.int
      exact op_gt pins s σ H _ _ v u Q I rx ry ⟨_, _, rfl, rfl, n.bl ex⟩
    · cases e
  | ge =>
    simp only [cmpD] at e
    split at e
    · cases e
      cases qx.int; cases qy.int
      exact op_ge pins s σ H _ _ v u Q I rx ry ⟨_, _, rfl, rfl, n.bl ex⟩
    · cases e
  | in_ =>
    have hb : ∃ b, d = .bl b := by
      unfold cmpD at e
      simp only at e
      split at e <;> first
        | (split at e
           · cases e; exact ⟨_, rfl⟩
           · cases e)
        | cases e
    obtain ⟨b, rfl⟩ := hb
    exact cmp_in (neg := false) hK hu ex qx qy e (n.bl ex) I rx ry
  | notin =>
    obtain ⟨b, e', rfl⟩ := cmp_notin_of e
    exact cmp_in (neg := true) hK hu ex qx qy e' (n.bl ex) I rx ry
  | is_ =>
    simp only [cmpD] at e
    have key : ∀ {b : Bool}, y = .non → b = decide (x = .non) → Q (.bl b) H → wpAny (model X.prog X.w) X.A (compareOp .Is v u) (EP X pins σ Q) X.xe s := fun {b} e1 e2 q =>
      op_isN pins s σ H x y v u Q I rx ry ⟨e1, by rw [← e2]; exact q⟩
    split at e
    · cases e
    · cases e
      exact key qy.non (by rw [qx.non]; rfl) (n.bl ex)
    · cases e
      rename_i h1 h2
      refine key qy.non ?_ (n.bl ex)
      cases dx with
      | non => exact absurd rfl h2
      | gone => exact absurd rfl h1
      | bl b => rw [qx.bl]; rfl
      | int b => rw [qx.int]; rfl
      | str b => rw [qx.str]; rfl
      | tup b => obtain ⟨p, vs, rfl, _⟩ := qx.tup ex; rfl
      | lst o b => obtain ⟨p, vs, _, rfl, _⟩ := qx.lst ex; rfl
      | scr b => obtain ⟨⟨p, rfl, _⟩, _⟩ := qx; rfl
      | dct o k ks vs => obtain ⟨_, p, kvs, _, rfl, _⟩ := qx.dct ex; rfl
      | ins o c fs vs => obtain ⟨p, dx, vs, _, rfl, _⟩ := qx; rfl
    · cases e
      cases qx.bl; cases qy.bl
      exact op_isBl pins s σ H _ _ v u Q I rx ry ⟨_, _, rfl, rfl, by rw [← Bool.beq_eq_decide_eq]; exact n.bl ex⟩
    · cases e
    · cases e
    · cases e
    · cases e
  | isnot =>
    simp only [cmpD] at e
    have key : ∀ {b : Bool}, y = .non → b = !decide (x = .non) → Q (.bl b) H → wpAny (model X.prog X.w) X.A (compareOp .IsNot v u) (EP X pins σ Q) X.xe s := fun {b} e1 e2 q =>
      op_notN pins s σ H x y v u Q I rx ry ⟨e1, by rw [← e2]; exact q⟩
    split at e
    · cases e
    · cases e
      exact key qy.non (by rw [qx.non]; rfl) (n.bl ex)
    · cases e
      rename_i h1 h2
      refine key qy.non ?_ (n.bl ex)
      cases dx with
      | non => exact absurd rfl h2
      | gone => exact absurd rfl h1
      | bl b => rw [qx.bl]; rfl
      | int b => rw [qx.int]; rfl
      | str b => rw [qx.str]; rfl
      | tup b => obtain ⟨p, vs, rfl, _⟩ := qx.tup ex; rfl
      | lst o b => obtain ⟨p, vs, _, rfl, _⟩ := qx.lst ex; rfl
      | scr b => obtain ⟨⟨p, rfl, _⟩, _⟩ := qx; rfl
      | dct o k ks vs => obtain ⟨_, p, kvs, _, rfl, _⟩ := qx.dct ex; rfl
      | ins o c fs vs => obtain ⟨p, dx, vs, _, rfl, _⟩ := qx; rfl
    · cases e
      cases qx.bl; cases qy.bl
      exact op_notBl pins s σ H _ _ v u Q I rx ry ⟨_, _, rfl, rfl, by rw [← Bool.beq_eq_decide_eq]; exact n.bl ex⟩
    · cases e
    · cases e
    · cases e
    · cases e
end
end Mp
/-! Names, places, tests, displays. -/
namespace Mp
open PySem L2

section
variable {T : Tab} {W : WX} {G G' H H' : Hp} {ρ : Env} {σ : St} {F : List Addr} {d : D} {Q : VK} {v : V}
theorem Step.perm {F' F2 F3 : List Addr} (s : Step G H F G' H' F') (p : F.Perm F2) (q : F'.Perm F3) : Step G H F2 G' H' F3 :=
  ⟨s.g, s.h, fun a o e n => s.keep a o e fun z => n (p.mem_iff.mp z), fun a ha => (s.sub a (q.mem_iff.mpr ha)).imp p.mem_iff.mp id, fun a o e => (s.gsub a o e).imp id fun z => z.imp p.mem_iff.mp id, q.nodup_iff.mp s.nd, fun a ha => s.gn a (q.mem_iff.mpr ha)⟩
theorem Step.freeze {F : List Addr} (ex : Ext G H) : Step G H F (lay G H F) H [] :=
  ⟨lay_ext ex, lay_sub ex, fun a o e _ => e, (fun _ z => nomatch z), fun a o e => by
    by_cases h : a ∈ F
    · exact .inr (.inl h)
    · rw [lay_out h] at e; exact .inl e, List.nodup_nil, (fun _ z => nomatch z)⟩
theorem OkE.now (P : Pre T G H ρ σ F) (r : Rp T G H d v []) : OkE T G H F ρ σ none d v H := ⟨G, [], F, P.ev0, r⟩
/-- the object at a place becomes another -/
theorem Pre.change {i : Nat} {π : List Nat} {c : D} (P : Pre T G H ρ σ F) (e : getS ρ i π = some c) (va : VAt T H ρ σ i π v) :
    ∃ F1, Rp T G H c v F1 ∧ F1.Nodup ∧ (∀ a ∈ F1, G a = none) ∧ ∀ {G' H' : Hp} {c' : D} {F1' Fv : List Addr}, Step G H F1 G' H' (Fv ++ F1') → Rp T G' H' c' v F1' → ∃ F', Ev T G H F ρ σ (some (setS ρ i π c')) G' H' Fv F' := by
  obtain ⟨F1, R, pm, r, put⟩ := P.env.place e va
  have nd := pm.nodup_iff.mp P.nd
  obtain ⟨n1, n2, n3⟩ := List.nodup_append.mp nd
  have trk := P.env.trk
  have mem : ∀ a ∈ R, a ∈ F := fun a ha => pm.mem_iff.mpr (List.mem_append_right _ ha)
  have dj : ∀ a ∈ R, a ∉ F1 := fun a ha hb => n3 a hb a ha rfl
  refine ⟨F1, r, n1, fun a ha => P.gn a (pm.mem_iff.mpr (List.mem_append_left _ ha)), fun {G' H' c' F1' Fv} s rc => ?_⟩
  obtain ⟨F', pm', re⟩ := put s.g (fun a ha o q => s.keep a o q (dj a ha)) rc
  refine ⟨F', ?_, re, fun z => nomatch z⟩
  refine (s.more (R := R) (fun a ha => trk a (mem a ha)) (fun a ha => P.gn a (mem a ha)) n2 dj).perm (List.perm_append_comm.trans pm.symm) ?_
  refine List.perm_append_comm.trans ?_
  rw [List.append_assoc]
  exact (pm'.symm).append_left Fv
theorem keep_ok {i : Nat} {π : List Nat} {o : Option Env} (P : Pre T G H ρ σ F) (va : VAt T H ρ σ i π v) (e : keep ρ i π = .ok (d, o)) : OkE T G H F ρ σ o d v H := by
  unfold keep at e
  split at e
  · cases e
  · rename_i c ec
    obtain ⟨F1, r, n1, g1, put⟩ := P.change ec va
    split at e
    · rename_i hs
      cases e
      exact .now P (Rp.sh hs r (.refl _))
    · split at e
      · rename_i hf
        cases e
        have r2 : Rp T (lay G H F1) H (fz c) v [] := Rp.fz (lay_ext P.ex) c v F1 hf r lay_get
        obtain ⟨F', ev⟩ := put (Fv := []) (F1' := []) (Step.freeze P.ex) r2
        exact ⟨_, [], F', ev, r2⟩
      · cases e
/-- the object at a place is taken out -/
theorem take_ok {i : Nat} {π : List Nat} (P : Pre T G H ρ σ F) (va : VAt T H ρ σ i π v) (e : getS ρ i π = some d) : OkE T G H F ρ σ (some (setS ρ i π .gone)) d v H := by
  obtain ⟨F1, r, n1, g1, put⟩ := P.change e va
  obtain ⟨F', ev⟩ := put (Fv := F1) (F1' := []) (G' := G) (H' := H) (c' := .gone) ⟨.refl _, P.ex, fun _ _ q _ => q, fun a ha => .inl (by rw [List.append_nil] at ha; exact ha), fun _ _ q => .inl q, by rw [List.append_nil]; exact n1, fun a ha => g1 a (by rw [List.append_nil] at ha; exact ha)⟩ (by simp only [Rp])
  exact ⟨G, F1, F', ev, r⟩
/-- one behind another -/
theorem OkE.after {o1 o2 : Option Env} {G1 H1 : Hp} {Fv F1 : List Addr} (E : Ev T G H F ρ σ o1 G1 H1 Fv F1) (k : OkE T G1 H1 F1 (Mp.now ρ o1) σ o2 d v H') : OkE T G H F ρ σ (orE o2 o1) d v H' := by
  obtain ⟨G', Fw, F', E2, r⟩ := k
  exact ⟨G', Fw, F', E.nil.trans (fun _ z => nomatch z) E2, r⟩
theorem OkB.after {o1 o2 : Option Env} {G1 H1 : Hp} {Fv F1 : List Addr} (E : Ev T G H F ρ σ o1 G1 H1 Fv F1) (k : OkB T G1 H1 F1 (Mp.now ρ o1) σ o2 H') : OkB T G H F ρ σ (orE o2 o1) H' := by
  obtain ⟨G', F', E2⟩ := k
  exact ⟨G', F', E.nil.trans (fun _ z => nomatch z) E2⟩
theorem OkE.b {o : Option Env} (k : OkE T G H F ρ σ o d v H') : OkB T G H F ρ σ o H' := by
  obtain ⟨G', Fw, F', E2, r⟩ := k
  exact ⟨G', F', E2.nil⟩
theorem Post.two {α : Type} {r : R α} {Φ : α → Prop} {Ξ : Nat → D → Env → Prop} (h : Post r Φ Ξ) : (∃ b, r = .ok b ∧ Φ b) ∨ ∃ c x ρ, r = .exc c x ρ ∧ Ξ c x ρ := by
  cases r with
  | ok b => exact .inl ⟨b, rfl, h⟩
  | exc c x ρ => exact .inr ⟨c, x, ρ, rfl, h⟩
  | stuck => exact h.elim
end

section
variable {X : Cx} {T : Tab} {W : WX} {C : Cfg} {ea eb ec : Expr} {pos : Pos}
/-! ### constants -/
theorem e_C {d : D} {v : V} (h : PE X ea (tC v)) (r : ∀ G H, Rp T G H d v []) : PE X ea (tE T W fun _ => .ok (d, none)) :=
  h.weak fun σ H Q ⟨G, ρ, F, P, h⟩ => h v H (.now P (r G H))
/-! ### names, places -/
theorem o_var {i : Nat} (h : PE X ea (tVar i)) : PE X ea (tO T W (dP C (.var i))) := by
  refine h.weak fun σ H Q ⟨G, ρ, F, P, h⟩ => ?_
  simp only [dP] at h
  cases e : slot ρ i with
  | gone => rw [e] at h; exact h.elim
  | _ =>
    rw [e] at h
    obtain ⟨v, ev, _⟩ := P.env.vat e (by simp)
    exact ⟨v, ev, h v H ⟨G, [], F, P.ev0, rfl, .var ev⟩⟩
theorem e_rd {p : P} (h : PE X ea (tO T W (dP C p))) : PE X ea (tE T W (dE C (.rd p))) := by
  refine h.weak fun σ H Q ⟨G, ρ, F, P, h⟩ => ?_
  simp only [dE] at h
  refine ⟨G, ρ, F, P, h.bind.imp (fun (a, o) h v H1 ⟨G1, Fv, F1, E, t⟩ => ?_) fun _ _ _ z => z⟩
  cases a with
  | tm d => exact h v H1 ⟨G1, Fv, F1, E, t⟩
  | pl i π =>
    obtain ⟨rfl, va⟩ := t
    have h : Post ((keep (now ρ o) i π).bind fun (d, o2) => .ok (d, orE o2 o)) _ _ := h
    rcases h.bind.two with ⟨⟨d, o2⟩, e, h⟩ | ⟨c, x, ρ', e, _⟩
    · exact h v H1 ((keep_ok E.pre va e).after E)
    · unfold keep at e
      split at e
      · cases e
      · split at e
        · cases e
        · split at e <;> cases e
theorem e_mv {i : Nat} (h : PE X ea (tVar i)) : PE X ea (tE T W (dE C (.mv i))) := by
  refine h.weak fun σ H Q ⟨G, ρ, F, P, h⟩ => ?_
  simp only [dE] at h
  have key : ∀ d, slot ρ i = d → d ≠ .gone → Post (match sh d with | true => .ok (d, none) | false => .ok (d, some (ρ.set i .gone)) : RE) (fun (d, o) => ∀ v H', OkE T G H F ρ σ o d v H' → Q v H') (Xi T W G H F σ) → ∃ v, σ[i]? = some (some v) ∧ Q v H := fun d e ne h => by
    obtain ⟨v, ev, _⟩ := P.env.vat e ne
    have eg : getS ρ i [] = some d := by
      unfold getS
      rw [e]
      cases d <;> first | rfl | exact absurd rfl ne
    refine ⟨v, ev, ?_⟩
    cases hs : sh d with
    | true =>
      rw [hs] at h
      obtain ⟨F1, r, _, _, _⟩ := P.change eg (.var ev)
      exact h v H (.now P (Rp.sh hs r (.refl _)))
    | false =>
      rw [hs] at h
      exact h v H (take_ok P (.var ev) eg)
  cases e : slot ρ i with
  | gone => rw [e] at h; exact h.elim
  | _ => rw [e] at h; exact key _ e (by simp) h
theorem o_tm {e : E} (h : PE X ea (tE T W (dE C e))) : PE X ea (tO T W (dO C (.tm e))) := by
  refine h.weak fun σ H Q ⟨G, ρ, F, P, h⟩ => ?_
  simp only [dO] at h
  exact ⟨G, ρ, F, P, h.bind.imp (fun (a, o) h v H1 k => h v H1 k) fun _ _ _ z => z⟩
theorem o_pl {p : P} (h : PE X ea (tO T W (dP C p))) : PE X ea (tO T W (dO C (.pl p))) := by
  refine h.weak fun σ H Q h => ?_
  simp only [dO] at h
  exact h
/-! ### tests -/
theorem bne_cast (n : Nat) : (n != 0) = ((n : Int) != 0) := by
  cases n <;> rfl
theorem empty_len {α β : Type} {xs : List α} {ys : List β} (h : ys.length = xs.length) : (!xs.isEmpty) = !ys.isEmpty := by
  cases xs <;> cases ys <;> first | rfl | (simp at h)
theorem t_truth {da : Env → R (OV × Option Env)} (hK : X.K = T.K) (ha : PE X ea (tO T W da)) (he : ∀ whole, isTrue ea X.env whole = (do let v ← whole; standAt ea.pos; holding [v] (truthy v))) :
    PT X ea (tB' T W fun ρ => (da ρ).bind fun (x, o) => match x.rd (now ρ o) with
    | none => .stuck
    | some d => match truth d with
      | some b => .ok (b, o)
      | none => .stuck) := by
  refine (pt_truth ha he).weak fun σ H Q ⟨G, ρ, F, P, h⟩ => ?_
  refine ⟨G, ρ, F, P, h.bind.imp (fun (a, o) h v H1 ⟨G1, Fv, F1, E, t⟩ => ?_) fun _ _ _ z => z⟩
  have h : Post (match a.rd (now ρ o) with
    | none => .stuck
    | some d => match truth d with
      | some b => .ok (b, o)
      | none => .stuck) _ _ := h
  cases e1 : a.rd (now ρ o) with
  | none => rw [e1] at h; exact h.elim
  | some d =>
    rw [e1] at h
    simp only at h
    cases e2 : truth d with
    | none => rw [e2] at h; exact h.elim
    | some b =>
      rw [e2] at h
      obtain ⟨Fw, hw, Fd, rd⟩ := Tmp.read E.pre t e1
      have E2 := E.freeze (Fw := Fw) fun x hx => by
        rcases hw with e | e
        · rw [e] at hx; cases hx
        · rw [e] at hx; exact hx
      refine ⟨b, ?_, h H1 ⟨_, _, E2⟩⟩
      have ex := E2.step.h
      rw [hK]
      unfold truth at e2
      split at e2 <;> try cases e2
      · rw [rd.non]; rfl
      · rw [rd.bl]; rfl
      · rw [rd.int]; rfl
      · split at e2
        · rename_i hl
          cases e2
          rw [rd.str]
          refine ⟨by rw [← line_eq]; exact of_decide_eq_true hl, ?_⟩
          exact bne_cast _
        · cases e2
      · obtain ⟨p, vs, rfl, hp, r1⟩ := rd.tup ex
        refine .inr (.inl ⟨vs, hp, ?_⟩)
        have := r1.length
        exact empty_len this
      · obtain ⟨p, vs, _, rfl, hp, r1⟩ := rd.lst ex
        refine .inl ⟨vs, .inl (.inl hp), ?_⟩
        have := r1.length
        exact empty_len this
      · obtain ⟨_, p, kvs, _, rfl, ek, r1, _, _, hp⟩ := rd.dct ex
        refine .inr (.inr ⟨kvs, hp, ?_⟩)
        subst ek
        cases kvs <;> rfl
end
end Mp
/-! Chains, and, or, if, indices, slices, displays. -/
namespace Mp
open PySem L2

section
variable {X : Cx} {T : Tab} {W : WX} {C : Cfg} {ea eb ec : Expr} {pos : Pos}
theorem rOp2_bool {op : Cp} {x y : V} {H : Hp} {Q : VK} : rOp2 T (cmpD op) x y H Q → ∃ G dx dy d Fx Fy, Ext G H ∧ Rp T G H dx x Fx ∧ Rp T G H dy y Fy ∧ cmpD op dx dy = some d ∧ New T G H d Q := id
/-- two operands in the den, read -/
theorem two_den {den : D → D → Option D} {G H G1 H1 : Hp} {F F1 Fv : List Addr} {ρ : Env} {σ : St} {o1 : Option Env} {a b : OV} {o2 : Option Env} {Φ : D × Option Env → Prop} {Ξ : Nat → D → Env → Prop} {G2 H2 : Hp} {Fu F2 : List Addr} {v u : V}
    (h : Post (op2 den a b o1 o2 ρ) Φ Ξ) (E1 : Ev T G H F ρ σ o1 G1 H1 Fv F1) (t1 : Tmp T G1 H1 (now ρ o1) σ a v Fv) (E2 : Ev T G1 H1 F1 (now ρ o1) σ o2 G2 H2 Fu F2) (t2 : Tmp T G2 H2 (now (now ρ o1) o2) σ b u Fu) :
    ∃ x y d G3 Fx Fy, (a.firm || o2.isNone) = true ∧ a.rd (now (now ρ o1) o2) = some x ∧ b.rd (now (now ρ o1) o2) = some y ∧ den x y = some d ∧ Φ (d, orE o2 o1) ∧ Ev T G H F ρ σ (orE o2 o1) G3 H2 [] F2 ∧ Rp T G3 H2 x v Fx ∧ Rp T G3 H2 y u Fy := by
  unfold op2 at h
  cases fm : (a.firm || o2.isNone) with
  | false => rw [fm] at h; exact h.elim
  | true =>
    simp only [fm] at h
    cases ex : a.rd (now (now ρ o1) o2) with
    | none => simp only [ex] at h; exact h.elim
    | some x =>
      cases ey : b.rd (now (now ρ o1) o2) with
      | none => simp only [ex, ey] at h; exact h.elim
      | some y =>
        simp only [ex, ey] at h
        cases ef : den x y with
        | none => rw [ef] at h; exact h.elim
        | some d =>
          rw [ef] at h
          obtain ⟨G3, Fx, Fy, E3, rx, ry⟩ := two_read E1 t1 E2 t2 fm ex ey
          exact ⟨x, y, d, G3, Fx, Fy, rfl, rfl, rfl, ef, h, E3, rx, ry⟩
theorem op2_exc {den : D → D → Option D} {ρ : Env} {o1 : Option Env} {a b : OV} {o2 : Option Env} {c : Nat} {x : D} {r : Env} : op2 den a b o1 o2 ρ ≠ .exc c x r := by
  unfold op2
  split
  · simp
  · split
    · unfold ofO
      split <;> simp
    · simp
theorem firm_of {a : OV} {o2 o3 : Option Env} (h : (a.firm || (orE o3 o2).isNone) = true) : (a.firm || o2.isNone) = true ∧ (a.firm || o3.isNone) = true := by
  cases o3 <;> cases o2 <;> simp_all [orE]
theorem TruV.bl {K : PySem.W.Frag} {H : Hp} {b k : Bool} (h : TruV K (.bl b) H k) : k = b := h
/-! ### comparisons -/
theorem t_cmp {op : Cp} {a b : O} (ho : OpR X (compareOp op.py) (rOp2 T (cmpD op))) (ha : PE X ea (tO T W (dO C a))) (hb : PE X eb (tO T W (dO C b))) (hm : behindInMarks op.py eb = false) :
    PT X (.Compare ea [op.py] [eb] pos) (tB' T W (dT C (.cmp op a b))) := by
  refine (pt_cmpR ho ha hb hm).weak fun σ H Q ⟨G, ρ, F, P, h⟩ => ?_
  simp only [dT] at h
  refine ⟨G, ρ, F, P, h.bind.imp (fun (a, o1) h v H1 ⟨G1, Fv, F1, E1, t1⟩ => ?_) fun _ _ _ z => z⟩
  refine ⟨G1, now ρ o1, F1, E1.pre, h.bind.imp (fun (b, o2) h u H2 ⟨G2, Fu, F2, E2, t2⟩ => ?_) (Xi.ev E1)⟩
  obtain ⟨x, y, d, G3, Fx, Fy, fm, e1, e2, ed, h, E3, rx, ry⟩ := two_den h.bind E1 t1 E2 t2
  refine ⟨G3, x, y, d, Fx, Fy, E3.step.h, rx, ry, ed, fun z H4 G4 Fz s rz => ?_⟩
  cases d with
  | bl k => exact ⟨k, rz.bl, h H4 (OkE.b (.of E3 s rz))⟩
  | _ => exact h.elim
theorem e_cmp {op : Cp} {a b : O} (ho : OpR X (compareOp op.py) (rOp2 T (cmpD op))) (ha : PE X ea (tO T W (dO C a))) (hb : PE X eb (tO T W (dO C b))) (hm : behindInMarks op.py eb = false) :
    PE X (.Compare ea [op.py] [eb] pos) (tE T W (dE C (.cmp op a b))) := by
  have := bi_ok ha hb (fun ta tb ha hb => pe_cmpR (pos := pos) ho ha hb hm) (sem_op2 T (cmpD op))
  refine this.weak fun σ H Q h => ?_
  simp only [dE] at h
  exact h
theorem e_bin {op : Op} {a b : O} (ho : OpR X (binaryOp op.py) (rOp2 T (binD op))) (ha : PE X ea (tO T W (dO C a))) (hb : PE X eb (tO T W (dO C b))) :
    PE X (.BinOp ea op.py eb pos) (tE T W (dE C (.bin op a b))) := by
  have := bi_ok ha hb (fun ta tb ha hb => pe_op (pos := pos) ho ha hb) (sem_op2 T (binD op))
  refine this.weak fun σ H Q h => ?_
  simp only [dE] at h
  exact h
theorem neg_R : UnR X (unaryOp .USub) (rOp1 T negD) := by
  intro pins s σ H x v Q I rx ⟨G, dx, d, Fx, ex, qx, e, n⟩
  unfold negD at e
  split at e
  · cases e
    cases qx.int
    exact un_neg pins s σ H _ v Q I rx ⟨_, rfl, n.int ex⟩
  · cases e
theorem inv_R : UnR X (unaryOp .Invert) (rOp1 T invD) := by
  intro pins s σ H x v Q I rx ⟨G, dx, d, Fx, ex, qx, e, n⟩
  unfold invD at e
  split at e
  · cases e
    cases qx.int
    exact un_inv pins s σ H _ v Q I rx ⟨_, rfl, n.int ex⟩
  · cases e
theorem e_neg {a : O} (ha : PE X ea (tO T W (dO C a))) : PE X (.UnaryOp .USub ea pos) (tE T W (dE C (.neg a))) := by
  have := un_ok ha (fun ta ha => pe_un (pos := pos) neg_R ha) (sem_op1 T negD)
  refine this.weak fun σ H Q h => ?_
  simp only [dE] at h
  exact h
theorem e_inv {a : O} (ha : PE X ea (tO T W (dO C a))) : PE X (.UnaryOp .Invert ea pos) (tE T W (dE C (.inv a))) := by
  have := un_ok ha (fun ta ha => pe_un (pos := pos) inv_R ha) (sem_op1 T invD)
  refine this.weak fun σ H Q h => ?_
  simp only [dE] at h
  exact h
theorem flat_rp {G H : Hp} {d : D} {v : V} {F : List Addr} (f : flat d = true) (r : Rp T G H d v F) (G' H' : Hp) : Rp T G' H' d v [] := by
  cases d <;> first | exact ⟨r.1, rfl⟩ | cases f
/-- a chain's den -/
theorem chain_den {α : Type} {op op' : Cp} {da db dc : Env → R (OV × Option Env)} {fin : Option Env → R α} {kk : D × Option Env → R α} {Q : VK} {Φ : α → Prop} {G H : Hp} {F : List Addr} {ρ : Env} {σ : St} (P : Pre T G H ρ σ F)
    (h : Post ((da ρ).bind fun (x, o1) => (db (now ρ o1)).bind fun (y, o2) => (midD y (now (now ρ o1) o2)).bind fun y' => (op2 (cmpD op) x y o1 o2 ρ).bind fun (d, o) => match d with
    | .bl false => fin o
    | .bl true => (dc (now ρ o)).bind fun (z, o3) => (op2 (cmpD op') (.tm y') z o o3 ρ).bind kk
    | _ => .stuck) Φ (Xi T W G H F σ))
    (k0 : ∀ o H', Post (fin o) Φ (Xi T W G H F σ) → OkB T G H F ρ σ o H' → Q (.bl false) H')
    (k1 : ∀ d o v H', Post (kk (d, o)) Φ (Xi T W G H F σ) → OkE T G H F ρ σ o d v H' → Q v H') :
    tChain (rOp2 T (cmpD op)) (rOp2 T (cmpD op')) (tO T W da) (tO T W db) (tO T W dc) σ H Q := by
  refine ⟨G, ρ, F, P, h.bind.imp (fun (a, o1) h v H1 ⟨G1, Fv, F1, E1, t1⟩ => ?_) fun _ _ _ z => z⟩
  refine ⟨G1, now ρ o1, F1, E1.pre, h.bind.imp (fun (b, o2) h u H2 ⟨G2, Fu, F2, E2, t2⟩ => ?_) (Xi.ev E1)⟩
  rcases h.bind.two with ⟨y', em, h⟩ | ⟨_, _, _, em, _⟩
  rotate_left
  · unfold midD at em
    split at em
    · split at em <;> cases em
    · cases em
  obtain ⟨x, y, d, G3, Fx, Fy, fm, e1, e2, ed, h, E3, rx, ry⟩ := two_den h.bind E1 t1 E2 t2
  have hy : y' = y ∧ flat y = true := by
    unfold midD at em
    rw [e2] at em
    simp only at em
    split at em
    · rename_i f
      cases em
      exact ⟨rfl, f⟩
    · cases em
  obtain ⟨rfl, hf⟩ := hy
  refine ⟨G3, x, y', d, Fx, Fy, E3.step.h, rx, ry, ed, fun z H4 G4 Fz s rz => ?_⟩
  cases d with
  | bl k =>
    have hF : Fz = [] := rz.2
    subst hF
    have E4 : Ev T G H F ρ σ (orE o2 o1) G4 H4 [] F2 := E3.trans (fun _ z => nomatch z) (New.ev E3.pre s)
    refine ⟨k, rz.bl, ?_⟩
    cases k with
    | false =>
      refine cast (if_neg Bool.false_ne_true).symm ?_
      exact k0 _ H4 h ⟨_, _, E4⟩
    | true =>
      refine cast (if_pos rfl).symm ?_
      have h : Post ((dc (now ρ (orE o2 o1))).bind fun (z, o3) => (op2 (cmpD op') (.tm y') z (orE o2 o1) o3 ρ).bind kk) Φ (Xi T W G H F σ) := h
      refine ⟨G4, now ρ (orE o2 o1), F2, E4.pre, h.bind.imp (fun (c, o3) h w H5 ⟨G5, Fw, F5, E5, t5⟩ => ?_) (Xi.ev E4)⟩
      obtain ⟨x2, y2, d2, G6, Fx2, Fy2, fm2, e12, e22, ed2, h, E6, rx2, ry2⟩ := two_den h.bind E4 (show Tmp T G4 H4 _ σ (.tm y') u [] from flat_rp hf ry G4 H4) E5 t5
      exact ⟨G6, x2, y2, d2, Fx2, Fy2, E6.step.h, rx2, ry2, ed2, fun z H7 G7 F7 s rz => k1 _ _ _ _ h (.of E6 s rz)⟩
  | _ => exact h.elim
theorem e_chain {op op' : Cp} {a b c : O} (ho : OpR X (compareOp op.py) (rOp2 T (cmpD op))) (ho' : OpR X (compareOp op'.py) (rOp2 T (cmpD op'))) (ha : PE X ea (tO T W (dO C a))) (hb : PE X eb (tO T W (dO C b))) (hc : PE X ec (tO T W (dO C c)))
    (hm : lastMarks [op.py, op'.py] [eb, ec] = false) : PE X (.Compare ea [op.py, op'.py] [eb, ec] pos) (tE T W (dE C (.chain op op' a b c))) := by
  refine (pe_chain ho ho' ha hb hc hm).weak fun σ H Q ⟨G, ρ, F, P, h⟩ => ?_
  simp only [dE] at h
  refine chain_den (α := D × Option Env) (fin := fun o => .ok (.bl false, o)) (Φ := fun (d, o) => ∀ v H', OkE T G H F ρ σ o d v H' → Q v H') P h (fun o H' h k => ?_) fun d o v H' h k => h v H' k
  obtain ⟨G1, F1, E⟩ := k
  exact h _ H' ⟨G1, [], F1, E, rfl, rfl⟩
theorem t_chain {op op' : Cp} {a b c : O} (ho : OpR X (compareOp op.py) (rOp2 T (cmpD op))) (ho' : OpR X (compareOp op'.py) (rOp2 T (cmpD op'))) (ha : PE X ea (tO T W (dO C a))) (hb : PE X eb (tO T W (dO C b))) (hc : PE X ec (tO T W (dO C c)))
    (hm : lastMarks [op.py, op'.py] [eb, ec] = false) : PT X (.Compare ea [op.py, op'.py] [eb, ec] pos) (tB' T W (dT C (.chain op op' a b c))) := by
  refine (pt_chain ho ho' ha hb hc hm).weak fun σ H Q ⟨G, ρ, F, P, h⟩ => ?_
  simp only [dT] at h
  refine chain_den (α := Bool × Option Env) (fin := fun o => .ok (false, o)) (Φ := fun (b, o) => ∀ H', OkB T G H F ρ σ o H' → Q b H') P h (fun o H' h k => ⟨false, rfl, h H' k⟩) fun d o v H' h k => ?_
  cases d with
  | bl b =>
    obtain ⟨G1, Fv, F1, E, r⟩ := id k
    exact ⟨b, r.bl, h H' k.b⟩
  | _ => exact h.elim
/-! ### and, or, not, if -/
variable {ta tb tc : Mp.T} {rs : List Expr}
theorem t_and (ha : PT X ea (tB' T W (dT C ta))) (hb : PW X (.BoolOp .And (eb :: rs) pos) (tB' T W (dT C tb))) : PW X (.BoolOp .And (ea :: eb :: rs) pos) (tB' T W (dT C (.and ta tb))) := by
  refine ⟨fun wh pins s σ H Q I ⟨G, ρ, F, P, h⟩ => (pw_and ha hb).run wh pins s σ H Q I ?_⟩
  simp only [dT] at h
  refine ⟨G, ρ, F, P, h.bind.imp (fun (k, o) h H1 ⟨G1, F1, E⟩ => ?_) fun _ _ _ z => z⟩
  cases k with
  | false => refine cast (if_neg Bool.false_ne_true).symm ?_; exact h H1 ⟨G1, F1, E⟩
  | true =>
    refine cast (if_pos rfl).symm ?_
    exact ⟨G1, now ρ o, F1, E.pre, (Post.bind h).imp (fun (k2, o2) h H2 kk => h H2 (kk.after E)) (Xi.ev E)⟩
theorem t_or (ha : PT X ea (tB' T W (dT C ta))) (hb : PW X (.BoolOp .Or (eb :: rs) pos) (tB' T W (dT C tb))) : PW X (.BoolOp .Or (ea :: eb :: rs) pos) (tB' T W (dT C (.or ta tb))) := by
  refine ⟨fun wh pins s σ H Q I ⟨G, ρ, F, P, h⟩ => (pw_or ha hb).run wh pins s σ H Q I ?_⟩
  simp only [dT] at h
  refine ⟨G, ρ, F, P, h.bind.imp (fun (k, o) h H1 ⟨G1, F1, E⟩ => ?_) fun _ _ _ z => z⟩
  cases k with
  | true => refine cast (if_pos rfl).symm ?_; exact h H1 ⟨G1, F1, E⟩
  | false =>
    refine cast (if_neg Bool.false_ne_true).symm ?_
    exact ⟨G1, now ρ o, F1, E.pre, (Post.bind h).imp (fun (k2, o2) h H2 kk => h H2 (kk.after E)) (Xi.ev E)⟩
theorem t_not (ha : PT X ea (tB' T W (dT C ta))) : PT X (.UnaryOp .Not ea pos) (tB' T W (dT C (.not ta))) := by
  refine (pt_not ha).weak fun σ H Q ⟨G, ρ, F, P, h⟩ => ?_
  simp only [dT] at h
  exact ⟨G, ρ, F, P, h.bind.imp (fun (k, o) h H1 kk => h H1 kk) fun _ _ _ z => z⟩
theorem e_ife {a b : E} (hc : PT X ec (tB' T W (dT C tc))) (ha : PE X ea (tE T W (dE C a))) (hb : PE X eb (tE T W (dE C b))) : PE X (.IfExp ec ea eb pos) (tE T W (dE C (.ife tc a b))) := by
  refine (pe_ifExp hc ha hb).weak fun σ H Q ⟨G, ρ, F, P, h⟩ => ?_
  simp only [dE] at h
  refine ⟨G, ρ, F, P, h.bind.imp (fun (k, o) h H1 ⟨G1, F1, E⟩ => ?_) fun _ _ _ z => z⟩
  cases k with
  | true =>
    refine cast (if_pos rfl).symm ?_
    exact ⟨G1, now ρ o, F1, E.pre, (Post.bind h).imp (fun (k2, o2) h v H2 kk => h v H2 (kk.after E)) (Xi.ev E)⟩
  | false =>
    refine cast (if_neg Bool.false_ne_true).symm ?_
    exact ⟨G1, now ρ o, F1, E.pre, (Post.bind h).imp (fun (k2, o2) h v H2 kk => h v H2 (kk.after E)) (Xi.ev E)⟩
theorem e_andv {a b : E} (ha : PE X ea (tE T W (dE C a))) (hb : PE X (.BoolOp .And (eb :: rs) pos) (tE T W (dE C b))) : PE X (.BoolOp .And (ea :: eb :: rs) pos) (tE T W (dE C (.andv a b))) := by
  refine (pe_and ha hb).weak fun σ H Q ⟨G, ρ, F, P, h⟩ => ?_
  simp only [dE] at h
  refine ⟨G, ρ, F, P, h.bind.imp (fun (d, o) h v H1 ⟨G1, Fv, F1, E, r⟩ => ?_) fun _ _ _ z => z⟩
  cases d with
  | bl k =>
    refine ⟨k, r.bl, ?_⟩
    cases k with
    | true =>
      refine cast (if_pos rfl).symm ?_
      exact ⟨G1, now ρ o, F1, E.pre, (Post.bind h).imp (fun (k2, o2) h v H2 kk => h v H2 (kk.after E)) (Xi.ev E)⟩
    | false =>
      refine cast (if_neg Bool.false_ne_true).symm ?_
      cases r.bl
      exact h _ H1 ⟨G1, Fv, F1, E, r⟩
  | _ => exact h.elim
theorem e_orv {a b : E} (ha : PE X ea (tE T W (dE C a))) (hb : PE X (.BoolOp .Or (eb :: rs) pos) (tE T W (dE C b))) : PE X (.BoolOp .Or (ea :: eb :: rs) pos) (tE T W (dE C (.orv a b))) := by
  refine (pe_or ha hb).weak fun σ H Q ⟨G, ρ, F, P, h⟩ => ?_
  simp only [dE] at h
  refine ⟨G, ρ, F, P, h.bind.imp (fun (d, o) h v H1 ⟨G1, Fv, F1, E, r⟩ => ?_) fun _ _ _ z => z⟩
  cases d with
  | bl k =>
    refine ⟨k, r.bl, ?_⟩
    cases k with
    | false =>
      refine cast (if_neg Bool.false_ne_true).symm ?_
      exact ⟨G1, now ρ o, F1, E.pre, (Post.bind h).imp (fun (k2, o2) h v H2 kk => h v H2 (kk.after E)) (Xi.ev E)⟩
    | true =>
      refine cast (if_pos rfl).symm ?_
      cases r.bl
      exact h _ H1 ⟨G1, Fv, F1, E, r⟩
  | _ => exact h.elim
end
end Mp
/-! Indices, fields, slices, displays, operand lists. -/
namespace Mp
open PySem L2

/-! ### readings are monotone -/
section
variable {T : Tab} {W : WX}
theorem tO.mono {den : Env → R (OV × Option Env)} {σ : St} {H : Hp} {Q Q' : VK} (h : tO T W den σ H Q) (k : ∀ v H', Q v H' → Q' v H') : tO T W den σ H Q' := by
  obtain ⟨G, ρ, F, P, h⟩ := h
  exact ⟨G, ρ, F, P, h.imp (fun (a, o) h v H' z => k v H' (h v H' z)) fun _ _ _ z => z⟩
theorem tE.mono {den : Env → RE} {σ : St} {H : Hp} {Q Q' : VK} (h : tE T W den σ H Q) (k : ∀ v H', Q v H' → Q' v H') : tE T W den σ H Q' := by
  obtain ⟨G, ρ, F, P, h⟩ := h
  exact ⟨G, ρ, F, P, h.imp (fun (a, o) h v H' z => k v H' (h v H' z)) fun _ _ _ z => z⟩
theorem un_den {r : V → Hp → VK → Prop} {f : D → Option D} {da : Env → R (OV × Option Env)} (sem : Sem1 T f r) {σ : St} {H : Hp} {Q : VK} (h : tE T W (fun ρ => (da ρ).bind fun (x, o) => op1 f x o ρ) σ H Q) : tO T W da σ H fun v H1 => r v H1 Q := by
  obtain ⟨G, ρ, F, P, h⟩ := h
  refine ⟨G, ρ, F, P, h.bind.imp (fun (a, o) h v H1 ⟨G1, Fv, F1, E, t⟩ => ?_) fun _ _ _ z => z⟩
  have h : Post (op1 f a o ρ) _ _ := h
  unfold op1 at h
  cases e1 : a.rd (now ρ o) with
  | none => rw [e1] at h; exact h.elim
  | some d =>
    rw [e1] at h
    have h : Post (ofO (f d) o) _ _ := h
    cases e2 : f d with
    | none => rw [e2] at h; exact h.elim
    | some d' =>
      rw [e2] at h
      obtain ⟨Fw, hw, Fd, rd⟩ := Tmp.read E.pre t e1
      have E2 := E.freeze (Fw := Fw) fun x hx => by
        rcases hw with e | e
        · rw [e] at hx; cases hx
        · rw [e] at hx; exact hx
      exact sem _ _ d d' v Fd Q E2.step.h rd e2 fun v' H' G' Fv' s r' => h v' H' (.of E2 s r')
theorem bi_den {r : R2} {f : D → D → Option D} {da db : Env → R (OV × Option Env)} (sem : Sem2 T f r) {σ : St} {H : Hp} {Q : VK}
    (h : tE T W (fun ρ => (da ρ).bind fun (x, o1) => (db (now ρ o1)).bind fun (y, o2) => op2 f x y o1 o2 ρ) σ H Q) : tO T W da σ H fun v H1 => tO T W db σ H1 fun u H2 => r v u H2 Q := by
  obtain ⟨G, ρ, F, P, h⟩ := h
  refine ⟨G, ρ, F, P, h.bind.imp (fun (a, o1) h v H1 ⟨G1, Fv, F1, E1, t1⟩ => ?_) fun _ _ _ z => z⟩
  refine ⟨G1, now ρ o1, F1, E1.pre, h.bind.imp (fun (b, o2) h u H2 ⟨G2, Fu, F2, E2, t2⟩ => ?_) (Xi.ev E1)⟩
  obtain ⟨x, y, d, G3, Fx, Fy, fm, e1, e2, ed, h, E3, rx, ry⟩ := two_den h E1 t1 E2 t2
  exact sem _ _ x y d v u Fx Fy Q E3.step.h rx ry ed fun v' H' G' Fv' s r' => h v' H' (.of E3 s r')
end

/-! ### indices -/
theorem place_ixN {i : Int} {n k : Nat} (h : place i n = some k) : ixN n i = some k := by
  unfold place at h
  unfold ixN
  by_cases h0 : 0 ≤ i
  · rw [if_pos h0] at h ⊢; exact h
  · rw [if_neg h0] at h ⊢
    by_cases h1 : 0 ≤ i + n
    · rw [if_pos h1] at h
      rw [if_pos (by omega)]; exact h
    · rw [if_neg h1] at h; cases h
theorem place_atI {α : Type} {xs : List α} {i : Int} {k : Nat} (h : place i xs.length = some k) : atI xs i = xs[k]? := by
  unfold atI
  rw [place_ixN h]
  rfl
/-- the n-th part of data is the n-th part of the object -/
def rIxN (T : Tab) : R2 := fun x y H Q => ∃ G dx dy Fx Fy n, Ext G H ∧ Rp T G H dx x Fx ∧ Rp T G H dy y Fy ∧ itemN dx dy = some n ∧
  ∀ u vs F', RpL T G H (kidsAny dx) vs F' → vs[n]? = some u → (∀ xs, kids dx = some xs → KV T H dx x vs) → Q u H
theorem getElem?_someD {α : Type} {xs : List α} {n : Nat} (h : n < xs.length) : ∃ v, xs[n]? = some v := ⟨xs[n], List.getElem?_eq_getElem h⟩
theorem place_lt {i : Int} {n k : Nat} (h : place i n = some k) : k < n := by
  unfold place at h
  split at h
  · split at h
    · cases h; omega
    · cases h
  · split at h
    · cases h; omega
    · cases h
section
variable {X : Cx} {T : Tab} {W : WX} {C : Cfg} {ea eb : Expr} {pos : Pos}
theorem ix_R (hK : X.K = T.K) (hu : X.A.units + 1 < cLine) : IxR X (rIxN T) := by
  intro value slice pins s σ H x y v u Q I rx ry ⟨G, dx, dy, Fx, Fy, n, ex, qx, qy, e, k⟩ hs
  unfold itemN at e
  split at e
  · obtain ⟨p, vs, F', rfl, hp, r1⟩ := qx.lst ex
    cases qy.int
    have hl := r1.length
    have lt := place_lt e
    rw [← hl] at e lt
    obtain ⟨w, ew⟩ := getElem?_someD lt
    refine ix_list value slice pins s σ H _ _ v u Q I rx ry ⟨p, vs, _, w, rfl, rfl, .inl (.inl hp), by rw [place_atI e]; exact ew, k w vs F' r1 ew fun xs hk => ?_⟩ hs
    rename_i o _ _
    cases o with
    | true => exact ⟨p, rfl, hp⟩
    | false => cases hk
  · obtain ⟨p, vs, rfl, hp, r1⟩ := qx.tup ex
    cases qy.int
    have hl := r1.length
    have lt := place_lt e
    rw [← hl] at e lt
    obtain ⟨w, ew⟩ := getElem?_someD lt
    exact ix_tup value slice pins s σ H _ _ v u Q I rx ry ⟨p, vs, _, w, rfl, rfl, by rw [hK]; exact hp, by rw [place_atI e]; exact ew, k w vs _ r1 ew fun xs hk => by cases hk⟩ hs
  · rename_i ns i
    obtain ⟨⟨p, rfl, hp⟩, _⟩ := qx
    cases qy.int
    have hl : (ns.map V.int).length = ns.length := List.length_map ..
    have lt := place_lt e
    rw [← hl] at e lt
    obtain ⟨w, ew⟩ := getElem?_someD lt
    exact ix_list value slice pins s σ H _ _ v u Q I rx ry ⟨p, _, _, w, rfl, rfl, by rw [hK]; exact ex.sqL hp, by rw [place_atI e]; exact ew, k w _ [] (RpL.ofInts ns) ew fun xs hk => by cases hk⟩ hs
  · rename_i o kk ks ds
    obtain ⟨ek, p, kvs, F', rfl, eks, r1, nd, hz, hp⟩ := qx.dct ex
    subst ek
    split at e
    · rename_i hk
      obtain ⟨key, _, ed⟩ := keyOk_of hk
      subst ed
      have hx := qy.key
      subst hx
      subst eks
      rcases findD_key key kvs with ⟨e1, _⟩ | ⟨n', p', e1, e2, e3, e4⟩
      · rw [e1] at e; cases e
      · rw [e1] at e
        cases e
        cases (show v = Value.ref p from rx)
        have g : DGet H p (kV key) (valV kvs key) := .k hp
        rw [e4] at g
        refine PyProof.Rows.tail_any (dict_typeIs I g) PySem.slot_dict_getitem.lookup (d_getItem hu I g ry fun w' s' I' rw' => ⟨p'.2, H, I', rw', k _ _ F' r1 (by rw [List.getElem?_map, e2]; rfl) fun xs hk => ?_⟩) hs
        revert hk; cases o <;> intro hk
        · cases hk
        · exact ⟨p, kvs, rfl, hp, rfl⟩
    · cases e
  · cases e
theorem PV.snoc {H : Hp} : ∀ {π : List Nat} {d c c' : D} {v x u : V} {vs : List V} {xs : List D} {n : Nat}, PV T H d v π x → getP d π = some c → KV T H c x vs → vs[n]? = some u → kids c = some xs → xs[n]? = some c' → PV T H d v (π ++ [n]) u
  | [], d, c, c', v, x, u, vs, xs, n, h, e, k, e1, e2, e3 => by
    cases (show v = x from h)
    cases e
    exact ⟨vs, u, k, e1, xs, c', e2, e3, rfl⟩
  | m :: π, d, c, c', v, x, u, vs, xs, n, h, e, k, e1, e2, e3 => by
    obtain ⟨ws, w, k1, f1, ys, c1, f2, f3, h⟩ := h
    simp only [getP, f2, f3] at e
    exact ⟨ws, w, k1, f1, ys, c1, f2, f3, PV.snoc h e k e1 e2 e3⟩
theorem kids_any {d : D} {xs : List D} (h : kids d = some xs) : kidsAny d = xs := by
  unfold kids at h
  split at h <;> cases h <;> rfl
theorem getS_getP {ρ : Env} {i : Nat} {π : List Nat} {d : D} (h : getS ρ i π = some d) : getP (slot ρ i) π = some d := by
  unfold getS at h
  split at h
  · cases h
  · exact h
theorem VAt.snoc {H : Hp} {ρ : Env} {σ : St} {i n : Nat} {π : List Nat} {x u : V} {c c' : D} {vs : List V} {xs : List D} (h : VAt T H ρ σ i π x) (e : getS ρ i π = some c) (k : KV T H c x vs) (e1 : vs[n]? = some u) (e2 : kids c = some xs) (e3 : xs[n]? = some c') : VAt T H ρ σ i (π ++ [n]) u := by
  obtain ⟨v, ev, h⟩ := h
  exact ⟨v, ev, h.snoc (getS_getP e) k e1 e2 e3⟩
theorem plainIx_ok {b : Expr} (h : (match b with | .Slice _ _ none _ => false | _ => true) = true) : PlainIx b := by
  intro o i
  unfold subscripted
  split
  · cases h
  · rename_i q; cases q
  · rfl
/-- a part: a value, or a place -/
theorem part_ok {a : OV} {d c : D} {n : Nat} {o : Option Env} {G H G1 H1 : Hp} {F F1 : List Addr} {ρ : Env} {σ : St} {x u : V} {vs : List V} {F' : List Addr} {Q : VK}
    (h : Post (match sh c with
          | true => .ok (.tm c, o)
          | false => match a, kids d with
            | .pl i π, some _ => .ok (.pl i (π ++ [n]), o)
            | _, _ => .stuck : R (OV × Option Env)) (fun (a, o) => ∀ v H', OkO T G H F ρ σ o a v H' → Q v H') (Xi T W G H F σ))
    (E : Ev T G H F ρ σ o G1 H1 [] F1) (t : ∀ i π, a = .pl i π → VAt T H1 (now ρ o) σ i π x ∧ getS (now ρ o) i π = some d)
    (ec : (kidsAny d)[n]? = some c) (rl : RpL T G1 H1 (kidsAny d) vs F') (eu : vs[n]? = some u) (kv : ∀ xs, kids d = some xs → KV T H1 d x vs) : Q u H1 := by
  cases hs : sh c with
  | true =>
    rw [hs] at h
    obtain ⟨v, Fz, e1, r1, _⟩ := rl.get ec
    rw [eu] at e1
    cases e1
    exact h u H1 ⟨G1, [], F1, E, Rp.sh hs r1 (.refl _)⟩
  | false =>
    rw [hs] at h
    cases a with
    | tm _ => exact h.elim
    | pl i π =>
      cases hk : kids d with
      | none => simp only [hk] at h; exact h.elim
      | some xs =>
        simp only [hk] at h
        obtain ⟨va, eg⟩ := t i π rfl
        refine h u H1 ⟨G1, [], F1, E, rfl, va.snoc eg (kv xs hk) eu hk (by rw [kids_any hk] at ec; exact ec)⟩
theorem o_ix {p : P} {e : E} (hK : X.K = T.K) (hu : X.A.units + 1 < cLine) (ha : PE X ea (tO T W (dP C p))) (hb : PE X eb (tE T W (dE C e))) (hs : PlainIx eb) : PE X (.Subscript ea eb pos) (tO T W (dP C (.ix p e))) := by
  refine (pe_ix (ix_R hK hu) ha hb hs).weak fun σ H Q ⟨G, ρ, F, P, h⟩ => ?_
  simp only [dP] at h
  refine ⟨G, ρ, F, P, h.bind.imp (fun (a, o1) h v H1 ⟨G1, Fv, F1, E1, t1⟩ => ?_) fun _ _ _ z => z⟩
  refine ⟨G1, now ρ o1, F1, E1.pre, (Post.bind h).imp (fun (k, o2) h u H2 ⟨G2, Fu, F2, E2, r2⟩ => ?_) (Xi.ev E1)⟩
  simp only at h t1 E1 E2
  cases fm : (a.firm || o2.isNone) with
  | false => simp only [fm] at h; exact h.elim
  | true =>
    simp only [fm] at h
    have E := E1.trans t1.trk E2
    have t1' := E2.keepTmp t1 E1.apart fm
    cases er : a.rd (now (now ρ o1) o2) with
    | none => simp only [er] at h; exact h.elim
    | some d =>
      simp only [er] at h
      obtain ⟨Fw, hw, Fd, rd⟩ := Tmp.read E2.pre t1' er
      have E3 := E.freeze (Fw := Fw) fun x hx => by
        rcases hw with e | e
        · rw [e] at hx; cases hx
        · rw [e] at hx; exact List.mem_append_left _ hx
      cases en : itemN d k with
      | none => simp only [en] at h; exact h.elim
      | some n =>
        simp only [en] at h
        cases ec : (kidsAny d)[n]? with
        | none => simp only [ec] at h; exact h.elim
        | some c =>
          simp only [ec] at h
          refine ⟨_, d, k, Fd, Fu, n, E3.step.h, rd, Rp.mono (lay_ext E2.pre.ex) k u Fu r2 (fun _ _ _ q => q), en, fun w vs F' rl ew kv => ?_⟩
          refine part_ok h E3 (x := v) (fun i π ea => ?_) ec rl ew kv
          subst ea
          rw [now_now] at t1' er
          exact ⟨t1'.2, er⟩
theorem itemD_of {x y d : D} (e : itemD x y = some d) : ∃ n, itemN x y = some n ∧ (kidsAny x)[n]? = some d ∧ sh d = true := by
  unfold itemD at e
  split at e
  · rename_i n en
    split at e
    · rename_i c ec
      split at e
      · rename_i hs
        cases e
        exact ⟨n, en, ec, hs⟩
      · cases e
    · cases e
  · cases e
theorem sem_ix (T : Tab) : Sem2 T itemD (rIxN T) := fun G H x y d v u Fv Fu Q ex rx ry e n => by
  obtain ⟨k, e1, e2, e3⟩ := itemD_of e
  refine ⟨G, x, y, Fv, Fu, k, ex, rx, ry, e1, fun w vs F' rl ew _ => ?_⟩
  obtain ⟨w', Fz, e4, r1, _⟩ := rl.get e2
  rw [ew] at e4
  cases e4
  exact n.val ex (Rp.sh e3 r1 (.refl _))
theorem e_sub {a b : O} (hK : X.K = T.K) (hu : X.A.units + 1 < cLine) (ha : PE X ea (tO T W (dO C a))) (hb : PE X eb (tO T W (dO C b))) (hs : PlainIx eb) : PE X (.Subscript ea eb pos) (tE T W (dE C (.sub a b))) := by
  refine (pe_ix (ix_R hK hu) ha hb hs).weak fun σ H Q h => ?_
  simp only [dE] at h
  exact bi_den (sem_ix T) h

/-! ### fields -/
structure ClsOk (X : Cx) (T : Tab) : Prop where
  cls : ∀ c, Cls X.K (T.ca c)
  no : ∀ c f, f < T.nf → NoAttr X.K (T.ca c) (T.fnm f)
theorem fldN_mem {f : Nat} : ∀ {fs : List Nat} {n : Nat}, fldN f fs = some n → f ∈ fs
  | [], n, e => by cases e
  | g :: r, n, e => by
    unfold fldN at e
    split at e
    · rename_i h; subst h; exact List.mem_cons_self
    · cases q : fldN f r with
      | none => rw [q] at e; cases e
      | some m => exact List.mem_cons_of_mem _ (fldN_mem q)
theorem fld_lookup {f : Nat} (hf : f < T.nf) : ∀ {fs : List Nat} {n : Nat} {vs : List V} {v : V}, (∀ g ∈ fs, g < T.nf) → fldN f fs = some n → vs[n]? = some v → ((fs.map T.fnm).zip vs).lookup (T.fnm f) = some v
  | [], n, vs, v, _, e, _ => by cases e
  | g :: r, n, [], v, _, e, ev => by simp at ev
  | g :: r, n, w :: vs, v, lt, e, ev => by
    unfold fldN at e
    simp only [List.map_cons, List.zip_cons_cons, List.lookup_cons]
    split at e
    · rename_i h
      subst h
      cases e
      simp only [List.getElem?_cons_zero, Option.some.injEq] at ev
      subst ev
      simp
    · rename_i h
      cases q : fldN f r with
      | none => rw [q] at e; cases e
      | some m =>
        rw [q] at e
        cases e
        have ne : ¬ T.fnm f = T.fnm g := fun z => h (T.inj g f (lt g List.mem_cons_self) hf z.symm)
        have ne' : (T.fnm f == T.fnm g) = false := beq_eq_false_iff_ne.mpr ne
        rw [ne']
        exact fld_lookup hf (fun a ha => lt a (List.mem_cons_of_mem _ ha)) q (by simpa using ev)
theorem Rp.fld {G H : Hp} {o : Bool} {c : Nat} {fs : List Nat} {ds : List D} {x : V} {F : List Addr} {f n : Nat} (r : Rp T G H (.ins o c fs ds) x F) (ex : Ext G H) (e : fldN f fs = some n) :
    ∃ a dx fvs vs F', x = .ref a ∧ H a = some (.ins (T.ca c) dx fvs) ∧ f < T.nf ∧ RpL T G H ds vs F' ∧ (∀ v, vs[n]? = some v → fvs.lookup (T.fnm f) = some v) ∧ ∀ xs, kids (.ins o c fs ds) = some xs → KV T H (.ins o c fs ds) x vs := by
  obtain ⟨p, dx, vs, F', rfl, rl, len, nd, lt, ne, q⟩ := r
  have hf := lt f (fldN_mem e)
  cases o with
  | true => exact ⟨p, dx, _, vs, F', rfl, q.1, hf, rl, fun v ev => fld_lookup hf lt e ev, fun xs _ => ⟨p, dx, _, rfl, q.1, by rw [rl.length, len]⟩⟩
  | false => exact ⟨p, dx, _, vs, F', rfl, ex _ _ q.1, hf, rl, fun v ev => fld_lookup hf lt e ev, fun xs hk => by cases hk⟩
theorem attrBase_ok {X : Cx} {e : Expr} (f : Str) (h : (match e with | .Call (.Name _ _) [] [] _ => false | _ => true) = true) : attributeBase e f X.env (eval e X.env) = eval e X.env := by
  unfold attributeBase
  split
  · cases h
  · rfl
theorem o_fld {p : P} {f : Nat} (co : ClsOk X T) (ha : PE X ea (tO T W (dP C p))) (hb : attributeBase ea (T.fnm f) X.env (eval ea X.env) = eval ea X.env) : PE X (.Attribute ea (T.fnm f) pos) (tO T W (dP C (.fld p f))) := by
  refine (pe_fld ha hb).weak fun σ H Q ⟨G, ρ, F, P, h⟩ => ?_
  simp only [dP] at h
  refine ⟨G, ρ, F, P, h.bind.imp (fun (a, o1) h v H1 ⟨G1, Fv, F1, E1, t1⟩ => ?_) fun _ _ _ z => z⟩
  simp only at h t1 E1
  cases er : a.rd (now ρ o1) with
  | none => simp only [er] at h; exact h.elim
  | some d =>
    simp only [er] at h
    obtain ⟨Fw, hw, Fd, rd⟩ := Tmp.read E1.pre t1 er
    have E3 := E1.freeze (Fw := Fw) fun x hx => by
      rcases hw with e | e
      · rw [e] at hx; cases hx
      · rw [e] at hx; exact hx
    cases d with
    | ins own c fs ds =>
      simp only at h
      cases en : fldN f fs with
      | none => simp only [en] at h; exact h.elim
      | some n =>
        simp only [en] at h
        cases ec : ds[n]? with
        | none => simp only [ec] at h; exact h.elim
        | some c' =>
          simp only [ec] at h
          obtain ⟨b, dx, fvs, vs, F', rfl, hp, hf, rl, lk, kv⟩ := rd.fld E3.step.h en
          obtain ⟨u, Fz, eu, _, _⟩ := rl.get ec
          refine ⟨b, _, dx, fvs, u, rfl, hp, co.cls c, co.no c f hf, lk u eu, ?_⟩
          refine part_ok h E3 (x := V.ref b) (fun i π ea => ?_) ec rl eu kv
          subst ea
          exact ⟨t1.2, er⟩
    | _ => exact h.elim
theorem e_fldv {a : O} {f : Nat} (co : ClsOk X T) (ha : PE X ea (tO T W (dO C a))) (hb : attributeBase ea (T.fnm f) X.env (eval ea X.env) = eval ea X.env) : PE X (.Attribute ea (T.fnm f) pos) (tE T W (dE C (.fldv a f))) := by
  refine (pe_fld ha hb).weak fun σ H Q h => ?_
  simp only [dE] at h
  refine (un_den (sem_op1 T (fldS f)) h).mono fun v H1 z => ?_
  obtain ⟨G, d, d', Fd, ex, rd, e, n⟩ := z
  unfold fldS at e
  split at e
  · split at e
    · cases e
    · rename_i m em
      split at e
      · rename_i c ec
        split at e
        · rename_i hs
          cases e
          obtain ⟨b, dx, fvs, vs, F', rfl, hp, hf, rl, lk, kv⟩ := rd.fld ex em
          obtain ⟨u, Fz, eu, ru, _⟩ := rl.get ec
          exact ⟨b, _, dx, fvs, u, rfl, hp, co.cls _, co.no _ f hf, lk u eu, n.val ex (Rp.sh hs ru (.refl _))⟩
        · cases e
      · cases e
  · cases e
end
end Mp
/-! Slices, displays, operand lists, built-ins. -/
namespace Mp
open PySem L2

theorem firm3 {f a b : Bool} (h : (f || (a && b)) = true) : (f || a) = true ∧ (f || b) = true := by revert h; cases f <;> cases a <;> cases b <;> decide
/-! ### expressions without stars -/
def plainE (e : Expr) : Bool := match e with
  | .Starred _ _ => false
  | _ => true
theorem star_cons {e : Expr} (h : plainE e = true) (es : List Expr) (env : PySem.Env) : starEach (e :: es) env = (false, eval e env) :: starEach es env := by
  cases e <;> first | rfl | cases h
theorem star_any : ∀ {es : List Expr} (h : es.all plainE = true) (env : PySem.Env) (pos : Pos), (backTo pos (starEach es env)).any (·.1) = false
  | [], _, _, _ => rfl
  | e :: es, h, env, pos => by
    rw [List.all_cons, Bool.and_eq_true] at h
    rw [star_cons h.1]
    show (false || (backTo pos (starEach es env)).any (·.1)) = false
    rw [star_any h.2 env pos]
    rfl
theorem star_all : ∀ {es : List Expr} (h : es.all plainE = true) (env : PySem.Env) (pos : Pos), (backTo pos (starEach es env)).all (fun x => !x.1) = true
  | [], _, _, _ => rfl
  | e :: es, h, env, pos => by
    rw [List.all_cons, Bool.and_eq_true] at h
    rw [star_cons h.1]
    show (true && (backTo pos (starEach es env)).all (fun x => !x.1)) = true
    rw [star_all h.2 env pos]
    rfl
theorem few_ok {e : Expr} {es : List Expr} {pos : Pos} {env : PySem.Env} (h : (e :: es).all plainE = true) (l : (e :: es).length < 30) :
    ((backTo pos (starEach (e :: es) env)).all (fun x => !x.1) && (backToKw pos (keywordEach [] env)).all (fun x => x.1.isSome)
      && decide ((e :: es).length + ([] : List Keyword).length + (if ([] : List Keyword).isEmpty then 0 else 1) < 30)) = true := by
  rw [star_all h]
  show decide ((e :: es).length + 0 + 0 < 30) = true
  exact decide_eq_true l

section
variable {X : Cx} {T : Tab} {W : WX} {C : Cfg} {ea eb : Expr} {es : List Expr} {pos : Pos}
/-! ### lists of operands, of values -/
theorem os_nil : PA X [] (tOs T W (dOs C .nil)) := by
  refine pa_nil.weak fun σ H Q ⟨G, ρ, F, P, h⟩ => ?_
  simp only [dOs] at h
  exact h [] H ⟨G, [], F, P.ev0, rfl, rfl⟩
theorem TmpL.trk {G H : Hp} {ρ : Env} {σ : St} : ∀ {as : List OV} {vs : List V} {F : List Addr}, TmpL T G H ρ σ as vs F → Trk H F
  | [], vs, F, h => by obtain ⟨_, rfl⟩ := h; exact fun _ z => nomatch z
  | a :: as, vs, F, h => by
    obtain ⟨v, ws, F1, F2, _, rfl, t, r⟩ := h
    intro x hx
    rcases List.mem_append.mp hx with z | z
    · exact t.trk x z
    · exact TmpL.trk r x z
theorem os_cons {a : O} {as : Os} (ha : PE X ea (tO T W (dO C a))) (hs : PA X es (tOs T W (dOs C as))) (pl : plainE ea = true) : PA X (ea :: es) (tOs T W (dOs C (.cons a as))) := by
  refine (pa_cons ha hs (star_cons pl es X.env)).weak fun σ H Q ⟨G, ρ, F, P, h⟩ => ?_
  simp only [dOs] at h
  refine ⟨G, ρ, F, P, h.bind.imp (fun (x, o1) h v H1 ⟨G1, Fv, F1, E1, t1⟩ => ?_) fun _ _ _ z => z⟩
  refine ⟨G1, now ρ o1, F1, E1.pre, (Post.bind h).imp (fun (xs, o2) h us H2 ⟨G2, Fu, F2, E2, t2⟩ => ?_) (Xi.ev E1)⟩
  simp only at h t1 t2 E1 E2
  cases fm : (x.firm || o2.isNone) with
  | false => simp only [fm] at h; exact h.elim
  | true =>
    simp only [fm] at h
    refine h (v :: us) H2 ⟨G2, Fv ++ Fu, F2, E1.trans t1.trk E2, v, us, Fv, Fu, rfl, rfl, ?_, ?_⟩
    · have := E2.keepTmp t1 E1.apart fm
      rw [now_now] at this
      exact this
    · rw [now_now] at t2
      exact t2
theorem es_nil : PA X [] (tEs T W (dEs C .nil)) := by
  refine pa_nil.weak fun σ H Q ⟨G, ρ, F, P, h⟩ => ?_
  simp only [dEs] at h
  exact h [] H ⟨G, [], F, P.ev0, rfl, rfl⟩
theorem es_cons {a : E} {as : Es} (ha : PE X ea (tE T W (dE C a))) (hs : PA X es (tEs T W (dEs C as))) (pl : plainE ea = true) : PA X (ea :: es) (tEs T W (dEs C (.cons a as))) := by
  refine (pa_cons ha hs (star_cons pl es X.env)).weak fun σ H Q ⟨G, ρ, F, P, h⟩ => ?_
  simp only [dEs] at h
  refine ⟨G, ρ, F, P, h.bind.imp (fun (x, o1) h v H1 ⟨G1, Fv, F1, E1, t1⟩ => ?_) fun _ _ _ z => z⟩
  refine ⟨G1, now ρ o1, F1, E1.pre, (Post.bind h).imp (fun (xs, o2) h us H2 ⟨G2, Fu, F2, E2, t2⟩ => ?_) (Xi.ev E1)⟩
  exact h (v :: us) H2 ⟨G2, Fv ++ Fu, F2, E1.trans (Rp.trk _ _ _ t1) E2, v, us, Fv, Fu, rfl, rfl, E2.keepRp t1 E1.apart, t2⟩
/-! ### displays -/
theorem e_lst {as : Es} (h : PA X es (tEs T W (dEs C as))) : PE X (.List es pos) (tE T W (dE C (.lst as))) := by
  refine (pe_lst h).weak fun σ H Q ⟨G, ρ, F, P, h⟩ => ?_
  simp only [dE] at h
  refine ⟨G, ρ, F, P, h.bind.imp (fun (xs, o1) h vs H1 ⟨G1, Fv, F1, E1, r1⟩ => ?_) fun _ _ _ z => z⟩
  simp only at h E1 r1
  split at h
  · rename_i hl
    have e := r1.length
    refine ⟨by rw [e, ← line_eq]; exact hl, fun p hp => ?_⟩
    have E := E1.trans (RpL.trk _ _ _ r1) (New.ev E1.pre (.newO (o := .lst vs) E1.step.h hp))
    have r2 : RpL T G1 (upd H1 p (.lst vs)) xs vs Fv := RpL.mono (.refl _) xs vs Fv r1 fun a ha o q => Ext.new hp a o q
    have nd := (List.nodup_append.mp E.step.nd).1
    refine h (.ref p) _ ⟨_, p :: Fv, F1, E.drop ((List.perm_append_comm (l₁ := Fv) (l₂ := [p])).nodup_iff.mp nd) fun x hx => ?_, p, vs, Fv, rfl, upd_same, r2, rfl⟩
    rcases List.mem_cons.mp hx with z | z
    · exact List.mem_append_right _ (by rw [z]; simp)
    · exact List.mem_append_left _ z
  · exact h.elim
theorem e_tup {as : Es} {x1 : _} (h : PA X es (tEs T W (dEs C as))) : PE X (.Tuple es x1 pos) (tE T W (dE C (.tup as))) := by
  refine (pe_tup h).weak fun σ H Q ⟨G, ρ, F, P, h⟩ => ?_
  simp only [dE] at h
  refine ⟨G, ρ, F, P, h.bind.imp (fun (xs, o1) h vs H1 ⟨G1, Fv, F1, E1, r1⟩ => ?_) fun _ _ _ z => z⟩
  simp only at h E1 r1
  split at h
  · rename_i hl
    have e := r1.length
    refine ⟨by rw [e, ← line_eq]; exact hl, fun p hp => ?_⟩
    have E := E1.trans (RpL.trk _ _ _ r1) (New.ev E1.pre (.newS (o := .tup vs) E1.step.h hp))
    rw [List.append_nil] at E
    have r2 : RpL T (upd G1 p (.tup vs)) (upd H1 p (.tup vs)) xs vs Fv := RpL.mono (.new (E1.step.h.back hp)) xs vs Fv r1 fun a ha o q => Ext.new hp a o q
    exact h (.ref p) _ ⟨_, Fv, F1, E, p, vs, rfl, SqT.of upd_same, r2⟩
  · exact h.elim
theorem e_dnew : PE X (.Dict [] [] pos) (tE T W (dE C (.dnew true))) := by
  refine pe_dnewK.weak fun σ H Q ⟨G, ρ, F, P, h⟩ p hp => ?_
  simp only [dE] at h
  exact h (.ref p) _ ⟨_, [p], F, New.ev P (.newO P.ex hp), rfl, p, [], [], rfl, rfl, ⟨rfl, rfl⟩, List.nodup_nil, Nat.zero_le _, upd_same, rfl⟩
/-! ### slices -/
theorem cut_take {α : Type} (xs : List α) (l h : Nat) : (xs.take h).drop l = (xs.drop l).take (h - l) := by rw [List.drop_take]
theorem sIx_lo (n : Nat) (a : Option Int) : (a.map fun i => clampI i n).getD 0 = HT.sIx n 0 a := by cases a <;> rfl
theorem sIx_hi (n : Nat) (a : Option Int) : (a.map fun i => clampI i n).getD n = HT.sIx n n a := by cases a <;> rfl
theorem RpL.cut {G H : Hp} {xs : List D} {vs : List V} (r : RpL T G H xs vs []) (a b : Option Int) : RpL T G H (cut xs a b) (cutV vs a b) [] := by
  unfold Mp.cut cutV
  rw [r.length, ← sIx_lo, ← sIx_hi]
  simp only
  rw [cut_take]
  exact (r.drop _).take _
theorem cut_whole {xs : List D} {a b : Option Int} (h : HT.sIx xs.length 0 a = 0 ∧ HT.sIx xs.length xs.length b = xs.length) : cut xs a b = xs := by
  unfold Mp.cut
  simp only
  rw [sIx_lo, sIx_hi, h.1, h.2]
  simp
def rCut (T : Tab) : V → Option Int → Option Int → Hp → VK → Prop := fun x lo hi H Q => ∃ G dx d Fx, Ext G H ∧ Rp T G H dx x Fx ∧ cutD dx lo hi = some d ∧ New T G H d Q
theorem sl_R (hK : X.K = T.K) : SlR X (rCut T) := by
  intro pins s σ H x v vl vu lo hi sl Q I rx hs pl pu ⟨G, dx, d, Fx, ex, qx, e, n⟩
  unfold cutD at e
  split at e
  · split at e
    · rename_i hsh
      cases e
      obtain ⟨p, vs, F', rfl, hp, r1⟩ := qx.lst ex
      have r2 : RpL T G H _ vs [] := RpL.sh hsh r1 (.refl _)
      exact sl_list pins s σ H _ v vl vu lo hi sl Q I rx hs pl pu ⟨p, vs, rfl, .inl (.inl hp), fun q hq => n.lst ex (r2.cut lo hi) hq⟩
    · cases e
  · split at e
    · rename_i hsh
      cases e
      obtain ⟨p, vs, rfl, hp, r1⟩ := qx.tup ex
      have r2 : RpL T G H _ vs [] := RpL.sh hsh r1 (.refl _)
      refine sl_tupA pins s σ H _ v vl vu lo hi sl Q I rx hs pl pu ⟨p, vs, rfl, by rw [hK]; exact hp, fun w => ?_, fun _ q hq => n.tup ex (r2.cut lo hi) hq⟩
      rw [r1.length] at w
      rw [cut_whole w] at n
      exact n.val ex (Rp.sh (d := .tup _) (by simpa only [sh] using hsh) qx (.refl _))
    · cases e
  · cases e
def tOpt (T : Tab) (W : WX) (den : Env → R (List D × Option Env)) : TO := fun σ H Q => ∃ G ρ F, Pre T G H ρ σ F ∧ Post (den ρ) (fun (ds, o) => ∃ i, optI ds = some i ∧ ∀ H', OkB T G H F ρ σ o H' → Q i H') (Xi T W G H F σ)
theorem opt_none : PO X none (tOpt T W (dEs C .nil)) := by
  refine ⟨fun pins s σ H Q I ⟨G, ρ, F, P, h⟩ => po_none.run pins s σ H Q I ?_⟩
  simp only [dEs] at h
  obtain ⟨i, e, h⟩ := h
  cases e
  exact h H ⟨G, F, P.ev0⟩
theorem opt_some {a : E} (ha : PE X ea (tE T W (dE C a))) : PO X (some ea) (tOpt T W (dEs C (.cons a .nil))) := by
  refine ⟨fun pins s σ H Q I ⟨G, ρ, F, P, h⟩ => (po_some ha).run pins s σ H Q I ?_⟩
  simp only [dEs] at h
  refine ⟨G, ρ, F, P, h.bind.imp (fun (d, o) h v H1 k => ?_) fun _ _ _ z => z⟩
  obtain ⟨i, e, h⟩ := h
  cases d with
  | int j =>
    cases e
    obtain ⟨G1, Fv, F1, E, r⟩ := id k
    exact ⟨j, r.int, h H1 k.b⟩
  | _ => cases e
theorem e_slc {a : O} {lo hi : Es} {k : Nat} {el eh : Option Expr} {p2 : Pos} (hK : X.K = T.K) (ha : PE X ea (tO T W (dO C a))) (hl : PO X el (tOpt T W (dEs C lo))) (hh : PO X eh (tOpt T W (dEs C hi))) : PE X (.Subscript ea (.Slice el eh none p2) pos) (tE T W (dE C (.slc a lo hi k))) := by
  refine (pe_slice (sl_R hK) ha hl hh).weak fun σ H Q ⟨G, ρ, F, P, h⟩ => ?_
  simp only [dE] at h
  refine ⟨G, ρ, F, P, h.bind.imp (fun (x, o1) h v H1 ⟨G1, Fv, F1, E1, t1⟩ => ?_) fun _ _ _ z => z⟩
  refine ⟨G1, now ρ o1, F1, E1.pre, (Post.bind h).imp (fun (l, o2) h => ?_) (Xi.ev E1)⟩
  simp only at h t1 E1
  cases el : optI l with
  | none => simp only [el] at h; exact h.elim
  | some i =>
    simp only [el] at h
    refine ⟨i, el, fun H2 ⟨G2, F2, E2⟩ => ?_⟩
    have E12 := E1.nil.trans (fun _ z => nomatch z) E2
    refine ⟨G2, now (now ρ o1) o2, F2, E2.pre, h.bind.imp (fun (l2, o3) h => ?_) fun c x r z => ?_⟩
    · simp only at h
      cases eh : optI l2 with
      | none => simp only [eh] at h; exact h.elim
      | some j =>
        simp only [eh] at h
        refine ⟨j, eh, fun H3 ⟨G3, F3, E3⟩ => ?_⟩
        cases fm : (x.firm || (o2.isNone && o3.isNone)) with
        | false => simp only [fm] at h; exact h.elim
        | true =>
          simp only [fm] at h
          cases er : x.rd (now (now (now ρ o1) o2) o3) with
          | none => simp only [er] at h; exact h.elim
          | some d =>
            simp only [er] at h
            cases ed : cutD d i j with
            | none => simp only [ed] at h; exact h.elim
            | some d' =>
              simp only [ed] at h
              have f2 := (firm3 fm).1
              have f3 := (firm3 fm).2
              have ta := E2.keepTmp t1 E1.apart f2
              have Ea := E1.trans t1.trk E2
              have tb := E3.keepTmp ta (by rw [List.append_nil] at Ea; exact Ea.apart) f3
              have Eb := Ea.trans (by rw [List.append_nil]; exact ta.trk) (by rw [← now_now]; exact E3)
              rw [List.append_nil, List.append_nil] at Eb
              obtain ⟨Fw, hw, Fd, rd⟩ := Tmp.read E3.pre tb er
              have Ef := Eb.freeze (Fw := Fw) fun q hq => by
                rcases hw with e | e
                · rw [e] at hq; cases hq
                · rw [e] at hq; exact hq
              exact ⟨_, d, d', Fd, Ef.step.h, rd, ed, fun u H' G' Fu s r => h u H' (.of Ef s r)⟩
    · exact Xi.ev E2 c x r (Xi.ev E1 c x r z)
theorem orE_none (o : Option Env) : orE none o = o := rfl
/-! ### built-ins -/
theorem blt1 {b : Bl} {a : O} {σ : St} {H : Hp} {Q : VK} (h : tE T W (dE C (.blt b (.cons a .nil))) σ H Q) : tE T W (fun ρ => (dO C a ρ).bind fun (x, o) => op1 (fun d => blD b [d]) x o ρ) σ H Q := by
  obtain ⟨G, ρ, F, P, h⟩ := h
  refine ⟨G, ρ, F, P, ?_⟩
  simp only [dE, dOs] at h
  show Post ((dO C a ρ).bind fun (x, o) => op1 (fun d => blD b [d]) x o ρ) _ _
  cases ea : dO C a ρ with
  | ok q =>
    obtain ⟨x, o⟩ := q
    simp only [ea, R.bind, Option.isNone_none, Bool.or_true, orE, rdL] at h ⊢
    unfold op1
    cases er : x.rd (now ρ o) with
    | none => simp only [er] at h; exact h.elim
    | some d => simp only [er] at h ⊢; exact h
  | exc c x r => simp only [ea, R.bind] at h ⊢; exact h
  | stuck => simp only [ea, R.bind] at h; exact h.elim
theorem blt2 {b : Bl} {a a2 : O} {σ : St} {H : Hp} {Q : VK} (h : tE T W (dE C (.blt b (.cons a (.cons a2 .nil)))) σ H Q) :
    tE T W (fun ρ => (dO C a ρ).bind fun (x, o1) => (dO C a2 (now ρ o1)).bind fun (y, o2) => op2 (fun x y => blD b [x, y]) x y o1 o2 ρ) σ H Q := by
  obtain ⟨G, ρ, F, P, h⟩ := h
  refine ⟨G, ρ, F, P, ?_⟩
  simp only [dE, dOs] at h
  show Post ((dO C a ρ).bind fun (x, o1) => (dO C a2 (now ρ o1)).bind fun (y, o2) => op2 (fun x y => blD b [x, y]) x y o1 o2 ρ) _ _
  cases ea : dO C a ρ with
  | ok q =>
    obtain ⟨x, o⟩ := q
    simp only [ea, R.bind] at h ⊢
    cases eb : dO C a2 (now ρ o) with
    | ok q2 =>
      obtain ⟨y, o2⟩ := q2
      simp only [eb, R.bind, Option.isNone_none, Bool.or_true, orE_none] at h ⊢
      unfold op2
      cases fm : (x.firm || o2.isNone) with
      | false => simp only [fm] at h; exact h.elim
      | true =>
        simp only [fm, rdL, ← now_now] at h ⊢
        cases er : x.rd (now (now ρ o) o2) with
        | none => simp only [er] at h; exact h.elim
        | some d =>
          cases er2 : y.rd (now (now ρ o) o2) with
          | none => simp only [er, er2] at h; exact h.elim
          | some d2 => simp only [er, er2] at h ⊢; exact h
    | exc c x r => simp only [eb, R.bind] at h ⊢; exact h
    | stuck => simp only [eb, R.bind] at h; exact h.elim
  | exc c x r => simp only [ea, R.bind] at h ⊢; exact h
  | stuck => simp only [ea, R.bind] at h; exact h.elim
end
end Mp
/-! Built-ins, one by one. -/
namespace Mp
open PySem L2

/-- a call with one value, two values -/
def rC1 (T : Tab) (f : D → Option D) : List V → Hp → VK → Prop := fun xs H Q => ∃ x, xs = [x] ∧ rOp1 T f x H Q
def rC2 (T : Tab) (f : D → D → Option D) : List V → Hp → VK → Prop := fun xs H Q => ∃ x y, xs = [x, y] ∧ rOp2 T f x y H Q
section
variable {X : Cx} {T : Tab} {W : WX} {C : Cfg} {ea eb : Expr} {pos p : Pos} {id : String} {x : Str} {b : Bl} {a a2 : O}
theorem e_callB1 (hc : CallR X (.builtin id) (rC1 T fun d => blD b [d])) (hg : Gl X x) (hm : X.mg x = none) (hv : bootBuiltins x = some (.builtin id)) (ha : PE X ea (tO T W (dO C a))) (pl : plainE ea = true) (hn : x ≠ "__name__" := by decide) (hdb : (x == ("__debug__" : Str)) = false := by decide) :
    PE X (.Call (.Name x p) [ea] [] pos) (tE T W (dE C (.blt b (.cons a .nil)))) := by
  refine (pe_callB hc hg hm hv (pa_cons ha pa_nil (star_cons pl [] X.env)) hn hdb (star_cons pl [] X.env) rfl).weak fun σ H Q h => ?_
  exact (un_den (sem_op1 T _) (blt1 h)).mono fun v H1 z => ⟨v, rfl, z⟩
theorem e_callT1 {t : String} (hc : CallR X (.type t) (rC1 T fun d => blD b [d])) (hg : Gl X x) (hm : X.mg x = none) (hv : bootBuiltins x = some (.type t)) (ha : PE X ea (tO T W (dO C a))) (pl : plainE ea = true) (hn : x ≠ "__name__" := by decide) (hdb : (x == ("__debug__" : Str)) = false := by decide) :
    PE X (.Call (.Name x p) [ea] [] pos) (tE T W (dE C (.blt b (.cons a .nil)))) := by
  refine (pe_callTy hc hg hm hv (pa_cons ha pa_nil (star_cons pl [] X.env)) hn hdb (star_cons pl [] X.env) rfl).weak fun σ H Q h => ?_
  exact (un_den (sem_op1 T _) (blt1 h)).mono fun v H1 z => ⟨v, rfl, z⟩
theorem e_callB2 (hc : CallR X (.builtin id) (rC2 T fun d e => blD b [d, e])) (hg : Gl X x) (hm : X.mg x = none) (hv : bootBuiltins x = some (.builtin id)) (ha : PE X ea (tO T W (dO C a))) (hb : PE X eb (tO T W (dO C a2))) (pl : plainE ea = true) (pl2 : plainE eb = true) (hn : x ≠ "__name__" := by decide) (hdb : (x == ("__debug__" : Str)) = false := by decide) :
    PE X (.Call (.Name x p) [ea, eb] [] pos) (tE T W (dE C (.blt b (.cons a (.cons a2 .nil))))) := by
  refine (pe_callB hc hg hm hv (pa_cons ha (pa_cons hb pa_nil (star_cons pl2 [] X.env)) (star_cons pl [eb] X.env)) hn hdb (star_cons pl [eb] X.env) (star_any (by simp [pl2]) X.env pos)).weak fun σ H Q h => ?_
  exact (bi_den (sem_op2 T _) (blt2 h)).mono fun v H1 z => z.mono fun u H2 z => ⟨v, u, rfl, z⟩

theorem Rp.rd {G H : Hp} {o k : Bool} {ks ds : List D} {v : V} {F : List Addr} (r : Rp T G H (.dct o k ks ds) v F) (ex : Ext G H) : ∃ p kvs F', v = .ref p ∧ ks = kvs.map (fun q => keyD q.1) ∧ RpL T G H ds (kvs.map (·.2)) F' ∧ (kvs.map (·.1)).Nodup ∧ kvs.length ≤ sizeLine ∧ Rd H p (.dK kvs) := by
  obtain ⟨_, p, kvs, F', e, ek, r1, nd, hz, hp⟩ := r.dct ex
  exact ⟨p, kvs, F', e, ek, r1, nd, hz, .inl hp⟩
theorem cr_len (hK : X.K = T.K) : CallR X (.builtin "len") (rC1 T fun d => blD .len [d]) := by
  intro pins s σ H xs us Q I r ⟨x, e0, G, dx, d, Fx, ex, qx, e, n⟩
  subst e0
  cases dx with
  | lst o ys =>
    cases e
    obtain ⟨q, vs, F', rfl, hp, r1⟩ := qx.lst ex
    exact call_len pins s σ H _ us Q I r ⟨_, _, rfl, .inl ⟨vs, .inl (.inl hp), rfl⟩, by rw [r1.length]; exact n.int ex⟩
  | tup ys =>
    cases e
    obtain ⟨q, vs, rfl, hp, r1⟩ := qx.tup ex
    exact call_len pins s σ H _ us Q I r ⟨_, _, rfl, .inr ⟨vs, by rw [hK]; exact hp, rfl⟩, by rw [r1.length]; exact n.int ex⟩
  | scr ys =>
    cases e
    obtain ⟨⟨q, rfl, hp⟩, _⟩ := qx
    exact call_len pins s σ H _ us Q I r ⟨_, _, rfl, .inl ⟨_, by rw [hK]; exact ex.sqL hp, rfl⟩, by rw [List.length_map]; exact n.int ex⟩
  | dct o k ks vs =>
    cases e
    obtain ⟨q, kvs, F', rfl, eks, r1, nd, hz, hp⟩ := qx.rd ex
    rw [eks, List.length_map] at n
    rw [Vals.ref1 r]
    exact d_len I hp fun t s' I' => ⟨.int _, H, I', ⟨_, rfl⟩, n.int ex⟩
  | str y =>
    have e : (if y.length ≤ line then some (D.int y.length) else none) = some d := e
    split at e
    · rename_i hl
      cases e
      cases qx.str
      exact call_len pins s σ H _ us Q I r ⟨_, _, rfl, ⟨by rw [← line_eq]; exact hl, rfl⟩, n.int ex⟩
    · cases e
  | _ => cases e
theorem cr_abs : CallR X (.builtin "abs") (rC1 T fun d => blD .abs [d]) := by
  intro pins s σ H xs us Q I r ⟨x, e0, G, dx, d, Fx, ex, qx, e, n⟩
  subst e0
  cases dx with
  | int i =>
    cases e
    cases qx.int
    exact call_abs pins s σ H _ us Q I r ⟨_, rfl, n.int ex⟩
  | _ => cases e
theorem cr_int : CallR X (.type "int") (rC1 T fun d => blD .int [d]) := by
  intro pins s σ H xs us Q I r ⟨x, e0, G, dx, d, Fx, ex, qx, e, n⟩
  subst e0
  cases dx with
  | int i =>
    cases e
    cases qx.int
    exact call_int1 pins s σ H _ us Q I r (.inl ⟨_, rfl, n.int ex⟩)
  | bl i =>
    cases e
    cases qx.bl
    exact call_int1 pins s σ H _ us Q I r (.inr ⟨_, rfl, n.int ex⟩)
  | _ => cases e
theorem cr_bool : CallR X (.type "bool") (rC1 T fun d => blD .bool [d]) := by
  intro pins s σ H xs us Q I r ⟨x, e0, G, dx, d, Fx, ex, qx, e, n⟩
  subst e0
  cases dx with
  | int i =>
    cases e
    cases qx.int
    exact call_bool1 pins s σ H _ us Q I r (.inl ⟨_, rfl, n.bl ex⟩)
  | bl i =>
    cases e
    cases qx.bl
    exact call_bool1 pins s σ H _ us Q I r (.inr ⟨_, rfl, n.bl ex⟩)
  | _ => cases e
theorem cr_min2 (hc : X.calm = true) : CallR X (.builtin "min") (rC2 T fun d e => blD .min2 [d, e]) := by
  intro pins s σ H xs us Q I r ⟨x, y, e0, G, dx, dy, d, Fx, Fy, ex, qx, qy, e, n⟩
  subst e0
  cases dx with
  | int i => cases dy with
    | int j =>
      cases e
      cases qx.int
      cases qy.int
      exact call_min2 hc pins s σ H _ us Q I r ⟨_, _, rfl, n.int ex⟩
    | _ => cases e
  | _ => cases e
theorem cr_max2 (hc : X.calm = true) : CallR X (.builtin "max") (rC2 T fun d e => blD .max2 [d, e]) := by
  intro pins s σ H xs us Q I r ⟨x, y, e0, G, dx, dy, d, Fx, Fy, ex, qx, qy, e, n⟩
  subst e0
  cases dx with
  | int i => cases dy with
    | int j =>
      cases e
      cases qx.int
      cases qy.int
      exact call_max2 hc pins s σ H _ us Q I r ⟨_, _, rfl, n.int ex⟩
    | _ => cases e
  | _ => cases e
/-! ### sequences of ints -/
theorem minI_spec : ∀ (xs : List Int) (m : Int), (minI m xs = m ∨ minI m xs ∈ xs) ∧ minI m xs ≤ m ∧ ∀ y ∈ xs, minI m xs ≤ y
  | [], m => ⟨.inl rfl, Int.le_refl _, (fun _ z => nomatch z)⟩
  | x :: xs, m => by
    obtain ⟨h1, h2, h3⟩ := minI_spec xs (if x < m then x else m)
    unfold minI
    refine ⟨?_, ?_, fun y hy => ?_⟩
    · rcases h1 with h | h
      · rw [h]
        split
        · exact .inr List.mem_cons_self
        · exact .inl rfl
      · exact .inr (List.mem_cons_of_mem _ h)
    · exact Int.le_trans h2 (by split <;> omega)
    · rcases List.mem_cons.mp hy with z | z
      · subst z
        exact Int.le_trans h2 (by split <;> omega)
      · exact h3 y z
theorem maxI_spec : ∀ (xs : List Int) (m : Int), (maxI m xs = m ∨ maxI m xs ∈ xs) ∧ m ≤ maxI m xs ∧ ∀ y ∈ xs, y ≤ maxI m xs
  | [], m => ⟨.inl rfl, Int.le_refl _, (fun _ z => nomatch z)⟩
  | x :: xs, m => by
    obtain ⟨h1, h2, h3⟩ := maxI_spec xs (if x > m then x else m)
    unfold maxI
    refine ⟨?_, ?_, fun y hy => ?_⟩
    · rcases h1 with h | h
      · rw [h]
        split
        · exact .inr List.mem_cons_self
        · exact .inl rfl
      · exact .inr (List.mem_cons_of_mem _ h)
    · exact Int.le_trans (by split <;> omega) h2
    · rcases List.mem_cons.mp hy with z | z
      · subst z
        exact Int.le_trans (by split <;> omega) h2
      · exact h3 y z
theorem minI_uniq {x m : Int} {xs : List Int} (h1 : m ∈ x :: xs) (h2 : ∀ y ∈ x :: xs, m ≤ y) : m = minI x xs := by
  obtain ⟨a, b, c⟩ := minI_spec xs x
  have l1 : minI x xs ≤ m := by
    rcases List.mem_cons.mp h1 with z | z
    · rw [z]; exact b
    · exact c m z
  have l2 : m ≤ minI x xs := by
    rcases a with z | z
    · rw [z]; exact h2 x List.mem_cons_self
    · exact h2 _ (List.mem_cons_of_mem _ z)
  omega
theorem maxI_uniq {x m : Int} {xs : List Int} (h1 : m ∈ x :: xs) (h2 : ∀ y ∈ x :: xs, y ≤ m) : m = maxI x xs := by
  obtain ⟨a, b, c⟩ := maxI_spec xs x
  have l1 : m ≤ maxI x xs := by
    rcases List.mem_cons.mp h1 with z | z
    · rw [z]; exact b
    · exact c m z
  have l2 : maxI x xs ≤ m := by
    rcases a with z | z
    · rw [z]; exact h2 x List.mem_cons_self
    · exact h2 _ (List.mem_cons_of_mem _ z)
  omega
/-- a sequence of ints stands so -/
theorem Rp.ints {G H : Hp} {d : D} {v : V} {F : List Addr} {xs : List D} {ns : List Int} (r : Rp T G H d v F) (ex : Ext G H) (e : seqOf d = some xs) (t : toInts xs = some ns) : ∃ q, v = .ref q ∧ (SqL T.K H q (ns.map V.int) ∨ SqT T.K H q (ns.map V.int)) := by
  obtain ⟨q, vs, F', e1, h, r1⟩ := r.seq ex e
  have e2 := RpL.toI r1 t
  subst e2
  exact ⟨q, e1, h⟩
theorem tup_ints {pins : List (Addr × Obj)} {σ : St} {H : Hp} {s : Shared} (I : L2.Inv X pins σ H s) {q : Addr} {ns : List Int} (h : SqT X.K H q (ns.map V.int)) : ∃ its : List Value, s.heap.IsTuple q its.toArray ∧ its.length = ns.length ∧ ∀ (i : Nat) (v : Value), its.toArray[i]? = some v → ∃ t, v = .int (ns.getD i 0) t := by
  obtain ⟨its, rv, hl, _⟩ := I.tuple h
  refine ⟨its, hl, by rw [← rv.length, List.length_map], fun i v hv => ?_⟩
  have hi := rv.ints
  have hv' : its[i]? = some v := by simpa using hv
  have hlt : i < ns.length := by
    have := (List.getElem?_eq_some_iff.mp hv').1
    rw [← rv.length, List.length_map] at this
    exact this
  obtain ⟨t, ht⟩ := hi.get i _ (List.getElem?_eq_getElem hlt)
  rw [hv'] at ht
  cases ht
  exact ⟨t, by rw [List.getD_eq_getElem?_getD, List.getElem?_eq_getElem hlt]; rfl⟩
theorem getD_memI {ns : List Int} {i : Nat} (h : i < ns.length) : ns.getD i 0 ∈ ns := by
  rw [List.getD_eq_getElem?_getD, List.getElem?_eq_getElem h]
  exact List.getElem_mem h
theorem mem_getDI {ns : List Int} {j : Int} (h : j ∈ ns) : ∃ i, i < ns.length ∧ ns.getD i 0 = j := by
  obtain ⟨i, hi, e⟩ := List.mem_iff_getElem.mp h
  exact ⟨i, hi, by rw [List.getD_eq_getElem?_getD, List.getElem?_eq_getElem hi, ← e]; rfl⟩
theorem tup_lt {s : Shared} {q : Addr} {its : Array Value} (h : s.heap.IsTuple q its) : q < s.heap.objs.size := let ⟨_, ho, _⟩ := h; Heap.lt_size ho
theorem min_tup (hc : X.calm = true) {pins : List (Addr × Obj)} {σ : St} {H : Hp} {s : Shared} {Q : VK} (I : L2.Inv X pins σ H s) {q : Addr} {ns : List Int} (h : SqT X.K H q (ns.map V.int)) (hne : ns ≠ []) (k : ∀ m, m ∈ ns → (∀ j ∈ ns, m ≤ j) → Q (.int m) H) :
    wpAny (model X.prog X.w) X.A (call (.builtin "min") [.ref q]) (EP X pins σ Q) X.xe s := by
  obtain ⟨its, hl, hlen, hval⟩ := tup_ints I h
  have hlt := tup_lt hl
  have hn0 : 0 < its.toArray.size := by rw [List.size_toArray, hlen]; exact List.length_pos_iff.mpr hne
  refine call_min_walk (wpAny_pyIter_tuple hl ?_)
  refine ⟨_, _, _, _, _, _, _, rfl, Walks.tuple (A := X.A.in1) (I.ok.hd hc) s.heap.objs.size q (Nat.ne_of_lt hlt) its.toArray,
    ⟨⟨_, Heap.get?_push_size _ rfl, rfl, rfl⟩, hl.push _⟩, fun b hb => ?_, hn0, CmpOf.ints_lt (fun i => ns.getD i 0) hval, fun v h' tk hP hk => ?_⟩
  · show b < (s.heap.push _).objs.size
    rw [Heap.size_push]
    rcases List.mem_cons.mp hb with e | hb
    · rw [e]; exact Nat.lt_succ_self _
    · rw [List.mem_singleton.mp hb]; exact Nat.lt_succ_of_lt hlt
  · obtain ⟨t, rfl⟩ := hval _ v hP
    obtain ⟨b1, b2⟩ := argBest_lt (fun i => ns.getD i 0) (its.toArray.size - 1)
    have hsz : its.toArray.size = ns.length := by rw [List.size_toArray, hlen]
    refine ⟨.int _, H, I.kept (t' := tk) fun b u e => hk b u (fun hmem => ?_) (Heap.get?_push_of_some _ e), ⟨t, rfl⟩, k _ (getD_memI (by omega)) fun j hj => ?_⟩
    · have e1 : b = s.heap.objs.size := List.mem_singleton.mp hmem
      have e2 := Heap.lt_size e
      rw [e1] at e2
      exact absurd e2 (Nat.lt_irrefl _)
    · obtain ⟨i, hi, e⟩ := mem_getDI hj
      rw [← e]
      exact b2 i (by omega)
theorem max_tup (hc : X.calm = true) {pins : List (Addr × Obj)} {σ : St} {H : Hp} {s : Shared} {Q : VK} (I : L2.Inv X pins σ H s) {q : Addr} {ns : List Int} (h : SqT X.K H q (ns.map V.int)) (hne : ns ≠ []) (k : ∀ m, m ∈ ns → (∀ j ∈ ns, j ≤ m) → Q (.int m) H) :
    wpAny (model X.prog X.w) X.A (call (.builtin "max") [.ref q]) (EP X pins σ Q) X.xe s := by
  obtain ⟨its, hl, hlen, hval⟩ := tup_ints I h
  have hlt := tup_lt hl
  have hn0 : 0 < its.toArray.size := by rw [List.size_toArray, hlen]; exact List.length_pos_iff.mpr hne
  refine call_max_walk (wpAny_pyIter_tuple hl ?_)
  refine ⟨_, _, _, _, _, _, _, rfl, Walks.tuple (A := X.A.in1) (I.ok.hd hc) s.heap.objs.size q (Nat.ne_of_lt hlt) its.toArray,
    ⟨⟨_, Heap.get?_push_size _ rfl, rfl, rfl⟩, hl.push _⟩, fun b hb => ?_, hn0, CmpOf.ints_gt (fun i => ns.getD i 0) hval, fun v h' tk hP hk => ?_⟩
  · show b < (s.heap.push _).objs.size
    rw [Heap.size_push]
    rcases List.mem_cons.mp hb with e | hb
    · rw [e]; exact Nat.lt_succ_self _
    · rw [List.mem_singleton.mp hb]; exact Nat.lt_succ_of_lt hlt
  · obtain ⟨t, rfl⟩ := hval _ v hP
    obtain ⟨b1, b2⟩ := argBest_gt (fun i => ns.getD i 0) (its.toArray.size - 1)
    have hsz : its.toArray.size = ns.length := by rw [List.size_toArray, hlen]
    refine ⟨.int _, H, I.kept (t' := tk) fun b u e => hk b u (fun hmem => ?_) (Heap.get?_push_of_some _ e), ⟨t, rfl⟩, k _ (getD_memI (by omega)) fun j hj => ?_⟩
    · have e1 : b = s.heap.objs.size := List.mem_singleton.mp hmem
      have e2 := Heap.lt_size e
      rw [e1] at e2
      exact absurd e2 (Nat.lt_irrefl _)
    · obtain ⟨i, hi, e⟩ := mem_getDI hj
      rw [← e]
      exact b2 i (by omega)
theorem bl_seqI {b : Bl} {g : List Int → Option D} {dx d : D} (hb : blD b [dx] = match seqOf dx with
    | some xs => match toInts xs with
      | some a => g a
      | none => none
    | none => none) (e : blD b [dx] = some d) : ∃ xs ns, seqOf dx = some xs ∧ toInts xs = some ns ∧ g ns = some d := by
  rw [hb] at e
  split at e
  · rename_i xs e1
    split at e
    · rename_i ns e2
      exact ⟨xs, ns, e1, e2, e⟩
    · cases e
  · cases e
theorem cr_min1 (hK : X.K = T.K) (hc : X.calm = true) : CallR X (.builtin "min") (rC1 T fun d => blD .min1 [d]) := by
  intro pins s σ H xs us Q I r ⟨x, e0, G, dx, d, Fx, ex, qx, e, n⟩
  subst e0
  obtain ⟨ys, ns, e1, e2, e3⟩ := bl_seqI (b := .min1) (g := fun a => match a with | x :: r => some (.int (minI x r)) | [] => none) (dx := dx) (by
    show (match seqOf dx with | some xs => (match toInts xs with | some (x :: r) => some (D.int (minI x r)) | _ => none) | none => none) = _
    cases seqOf dx with
    | none => rfl
    | some ys => simp only; cases toInts ys with
      | none => rfl
      | some a => cases a <;> rfl) e
  obtain ⟨q, rfl, h⟩ := qx.ints ex e1 e2
  rw [← hK] at h
  cases ns with
  | nil => cases e3
  | cons m ms =>
    cases e3
    have fin : ∀ w, w ∈ m :: ms → (∀ y ∈ m :: ms, w ≤ y) → Q (.int w) H := fun w h1 h2 => by rw [minI_uniq h1 h2]; exact n.int ex
    rcases h with h | h
    · exact cr_min hc pins s σ H _ us Q I r ⟨q, m :: ms, rfl, h, Nat.succ_pos _, fin⟩
    · rw [Vals.ref1 r]; exact min_tup hc I h (by simp) fin
theorem cr_max1 (hK : X.K = T.K) (hc : X.calm = true) : CallR X (.builtin "max") (rC1 T fun d => blD .max1 [d]) := by
  intro pins s σ H xs us Q I r ⟨x, e0, G, dx, d, Fx, ex, qx, e, n⟩
  subst e0
  obtain ⟨ys, ns, e1, e2, e3⟩ := bl_seqI (b := .max1) (g := fun a => match a with | x :: r => some (.int (maxI x r)) | [] => none) (dx := dx) (by
    show (match seqOf dx with | some xs => (match toInts xs with | some (x :: r) => some (D.int (maxI x r)) | _ => none) | none => none) = _
    cases seqOf dx with
    | none => rfl
    | some ys => simp only; cases toInts ys with
      | none => rfl
      | some a => cases a <;> rfl) e
  obtain ⟨q, rfl, h⟩ := qx.ints ex e1 e2
  rw [← hK] at h
  cases ns with
  | nil => cases e3
  | cons m ms =>
    cases e3
    have fin : ∀ w, w ∈ m :: ms → (∀ y ∈ m :: ms, y ≤ w) → Q (.int w) H := fun w h1 h2 => by rw [maxI_uniq h1 h2]; exact n.int ex
    rcases h with h | h
    · exact cr_max hc pins s σ H _ us Q I r ⟨q, m :: ms, rfl, h, Nat.succ_pos _, fin⟩
    · rw [Vals.ref1 r]; exact max_tup hc I h (by simp) fin
theorem cr_sumL (hK : X.K = T.K) (hc : X.calm = true) : CallR X (.builtin "sum") (rC1 T fun d => blD .sum [d]) := by
  intro pins s σ H xs us Q I r ⟨x, e0, G, dx, d, Fx, ex, qx, e, n⟩
  subst e0
  cases dx with
  | lst o ys =>
    have e : (match toInts ys with | some a => some (D.int a.sum) | none => none) = some d := e
    split at e
    · rename_i ns et
      cases e
      obtain ⟨q, vs, F', rfl, hp, r1⟩ := qx.lst ex
      have e2 := RpL.toI r1 et
      subst e2
      exact cr_sum hc pins s σ H _ us Q I r ⟨q, ns, rfl, .inl (.inl hp), n.int ex⟩
    · cases e
  | _ => cases e
theorem RpL.bls {G H : Hp} : ∀ {xs : List D} {vs : List V} {F : List Addr} {bs : List Bool}, RpL T G H xs vs F → bools xs = some bs → vs = bs.map V.bl
  | [], vs, F, bs, h, e => by
    obtain ⟨rfl, _⟩ := h
    cases e
    rfl
  | x :: xs, vs, F, bs, h, e => by
    obtain ⟨v, ws, F1, F2, rfl, _, r1, r2⟩ := h
    cases x with
    | bl b =>
      have e : (match bools xs with | some r => some (b :: r) | none => none) = some bs := e
      split at e
      · rename_i r er
        cases e
        rw [r1.bl, RpL.bls r2 er]
        rfl
      · cases e
    | _ => cases e
theorem cr_anyL (hc : X.calm = true) : CallR X (.builtin "any") (rC1 T fun d => blD .any [d]) := by
  intro pins s σ H xs us Q I r ⟨x, e0, G, dx, d, Fx, ex, qx, e, n⟩
  subst e0
  cases dx with
  | lst o ys =>
    have e : (match bools ys with | some a => some (D.bl (a.any id)) | none => none) = some d := e
    split at e
    · rename_i ns et
      cases e
      obtain ⟨q, vs, F', rfl, hp, r1⟩ := qx.lst ex
      have e2 := RpL.bls r1 et
      subst e2
      exact cr_any hc pins s σ H _ us Q I r ⟨q, ns, rfl, .inl (.inl hp), n.bl ex⟩
    · cases e
  | _ => cases e
theorem cr_allL (hc : X.calm = true) : CallR X (.builtin "all") (rC1 T fun d => blD .all [d]) := by
  intro pins s σ H xs us Q I r ⟨x, e0, G, dx, d, Fx, ex, qx, e, n⟩
  subst e0
  cases dx with
  | lst o ys =>
    have e : (match bools ys with | some a => some (D.bl (a.all id)) | none => none) = some d := e
    split at e
    · rename_i ns et
      cases e
      obtain ⟨q, vs, F', rfl, hp, r1⟩ := qx.lst ex
      have e2 := RpL.bls r1 et
      subst e2
      exact cr_all hc pins s σ H _ us Q I r ⟨q, ns, rfl, .inl (.inl hp), n.bl ex⟩
    · cases e
  | _ => cases e
/-! ### list, tuple, sorted -/
theorem RpL.keys {G H : Hp} : ∀ (kvs : List (Key × V)), RpL T G H (kvs.map fun q => keyD q.1) (kvs.map fun q => kV q.1) []
  | [] => ⟨rfl, rfl⟩
  | q :: r => by
    obtain ⟨k, v⟩ := q
    refine ⟨_, _, [], [], rfl, rfl, ?_, RpL.keys r⟩
    cases k with
    | inl i => exact ⟨rfl, rfl⟩
    | inr s => exact ⟨rfl, rfl⟩
theorem cr_listL (hK : X.K = T.K) (hc : X.calm = true) : CallR X (.type "list") (rC1 T fun d => blD .list [d]) := by
  intro pins s σ H xs us Q I r ⟨x, e0, G, dx, d, Fx, ex, qx, e, n⟩
  subst e0
  have key : ∀ ys, seqOf dx = some ys → (if shL ys then some (D.lst true ys) else none) = some d → wpAny (model X.prog X.w) X.A (call (.type "list") us) (EP X pins σ Q) X.xe s := fun ys e1 e2 => by
    split at e2
    · rename_i hs
      cases e2
      obtain ⟨q, vs, F', rfl, hq, r1⟩ := qx.seq ex e1
      rw [← hK] at hq
      exact call_list_of pins s σ H _ us Q I r ⟨q, vs, rfl, hq, fun l hl => n.lst ex (RpL.sh hs r1 (.refl _)) hl⟩
    · cases e2
  cases dx with
  | lst o ys => exact key ys rfl e
  | tup ys => exact key ys rfl e
  | dct o k ks vs =>
    cases e
    obtain ⟨q, kvs, F', rfl, eks, r1, nd, hz, hp⟩ := qx.rd ex
    subst eks
    exact call_listD hc pins s σ H _ us Q I r ⟨q, kvs, rfl, hp, fun l hl => n.lst ex (RpL.keys kvs) hl⟩
  | _ => cases e
theorem cr_tupleL (hK : X.K = T.K) (hc : X.calm = true) : CallR X (.type "tuple") (rC1 T fun d => blD .tuple [d]) := by
  intro pins s σ H xs us Q I r ⟨x, e0, G, dx, d, Fx, ex, qx, e, n⟩
  subst e0
  cases dx with
  | lst o ys =>
    have e : (if shL ys then some (D.tup ys) else none) = some d := e
    split at e
    · rename_i hs
      cases e
      obtain ⟨q, vs, F', rfl, hp, r1⟩ := qx.lst ex
      exact call_tuple_of pins s σ H _ us Q I r ⟨q, vs, rfl, .inl ⟨.inl (.inl hp), fun l hl => n.tup ex (RpL.sh hs r1 (.refl _)) hl⟩⟩
    · cases e
  | tup ys =>
    have e : (if shL ys then some (D.tup ys) else none) = some d := e
    split at e
    · rename_i hs
      cases e
      obtain ⟨q, vs, rfl, hp, r1⟩ := id (qx.tup ex)
      exact call_tuple_of pins s σ H _ us Q I r ⟨q, vs, rfl, .inr ⟨by rw [hK]; exact hp, n.val ex (Rp.sh (d := .tup _) (by simpa only [sh] using hs) qx (.refl _))⟩⟩
    · cases e
  | _ => cases e
theorem insI_comm (x y : Int) : ∀ l : List Int, insI x (insI y l) = insI y (insI x l)
  | [] => by
    simp only [insI]
    by_cases h : x ≤ y
    · by_cases h2 : y ≤ x
      · have : x = y := by omega
        subst this
        rfl
      · rw [if_pos h, if_neg h2]
    · have h2 : y ≤ x := by omega
      rw [if_neg h, if_pos h2]
  | z :: l => by
    simp only [insI]
    by_cases hy : y ≤ z <;> by_cases hx : x ≤ z <;> simp only [if_pos, if_neg, hx, hy, insI, not_false_eq_true]
    · by_cases h : x ≤ y
      · by_cases h2 : y ≤ x
        · have : x = y := by omega
          subst this
          rfl
        · simp only [if_pos h, if_neg h2, insI, if_pos hy]
      · have h2 : y ≤ x := by omega
        simp only [if_neg h, if_pos h2, insI, if_pos hx]
    · have h : ¬ x ≤ y := by omega
      simp only [if_neg h, insI, if_neg hx]
    · have h : ¬ y ≤ x := by omega
      simp only [if_neg h, insI, if_neg hy]
    · rw [insI_comm x y l]
theorem sortI_perm {xs ys : List Int} (h : xs.Perm ys) : sortI xs = sortI ys := by
  induction h with
  | nil => rfl
  | cons x _ ih => simp only [sortI, ih]
  | swap x y l => exact insI_comm _ _ _
  | trans _ _ a b => exact a.trans b
theorem insI_le {x : Int} : ∀ {xs : List Int}, (∀ y ∈ xs, x ≤ y) → insI x xs = x :: xs
  | [], _ => rfl
  | y :: ys, h => by simp only [insI, if_pos (h y List.mem_cons_self)]
theorem sortI_sorted : ∀ {xs : List Int}, xs.Pairwise (· ≤ ·) → sortI xs = xs
  | [], _ => rfl
  | x :: xs, h => by
    rw [List.pairwise_cons] at h
    simp only [sortI, sortI_sorted h.2, insI_le h.1]
theorem sort_uniq {xs ys : List Int} (h : ys.Perm xs) (s : ys.Pairwise (· ≤ ·)) : ys = sortI xs := by rw [← sortI_perm h, sortI_sorted s]
theorem New.ints {G H : Hp} {Q : VK} {ns : List Int} (ex : Ext G H) (n : New T G H (.lst true (ns.map D.int)) Q) {p : Addr} (h : H p = none) : Q (.ref p) (upd H p (.lst (ns.map V.int))) := n.lst ex (RpL.ofInts ns) h
theorem keys_ints : ∀ {kvs : List (Key × V)} {ns : List Int}, toInts (kvs.map fun q => keyD q.1) = some ns → kvs.map (·.1) = ns.map Sum.inl
  | [], ns, e => by cases e; rfl
  | (k, v) :: r, ns, e => by
    cases k with
    | inl i =>
      have e : (match toInts (r.map fun q => keyD q.1) with | some r => some (i :: r) | none => none) = some ns := e
      split at e
      · rename_i m em
        cases e
        simp only [List.map_cons, keys_ints em]
      · cases e
    | inr s => cases e
theorem cr_sortedL (hc : X.calm = true) : CallR X (.builtin "sorted") (rC1 T fun d => blD .sorted [d]) := by
  intro pins s σ H xs us Q I r ⟨x, e0, G, dx, d, Fx, ex, qx, e, n⟩
  subst e0
  cases dx with
  | lst o ys =>
    have e : (match toInts ys with | some a => some (D.lst true ((sortI a).map D.int)) | none => none) = some d := e
    split at e
    · rename_i ns et
      cases e
      obtain ⟨q, vs, F', rfl, hp, r1⟩ := qx.lst ex
      have e2 := RpL.toI r1 et
      subst e2
      refine cr_sortedI pins s σ H _ us Q I r ⟨q, ns, rfl, .inl (.inl hp), fun ns' p h1 h2 h3 => ?_⟩
      rw [sort_uniq h1 h2]
      exact n.ints ex h3
    · cases e
  | dct o k ks vs =>
    have e : (match toInts ks with | some a => (if decide (a.length < 64) then some (D.lst true ((sortI a).map D.int)) else none) | none => none) = some d := e
    split at e
    · rename_i ns et
      split at e
      · rename_i h64
        cases e
        obtain ⟨q, kvs, F', rfl, eks, r1, nd, hz, hp⟩ := qx.rd ex
        subst eks
        refine call_sortedDI hc pins s σ H _ us Q I r ⟨q, kvs, ns, rfl, hp, keys_ints et, of_decide_eq_true h64, fun ns' p h1 h2 h3 => ?_⟩
        rw [sort_uniq h1 h2]
        exact n.ints ex h3
      · cases e
    · cases e
  | _ => cases e
/-! ### isinstance -/
def tyNames : List String := ["NoneType", "bool", "int", "str", "list", "tuple", "dict"]
def clNames : List String := ["bool", "int", "str", "list", "tuple", "dict"]
def subB (t u : String) : Bool := (t == u) || (t == "bool" && u == "int")
theorem kit_b (K : PySem.W.Frag) : ∀ t ∈ tyNames, ∀ u ∈ clNames, PySem.W.kitOne K (.type t) (.type u) = some (subB t u) := by
  intro t ht u hu
  simp only [tyNames, clNames, List.mem_cons, List.not_mem_nil, or_false] at ht hu
  rcases ht with rfl | rfl | rfl | rfl | rfl | rfl | rfl <;> rcases hu with rfl | rfl | rfl | rfl | rfl | rfl <;> first | rfl | kernel_rfl
def Ty.nm : Ty → String
  | .int => "int" | .bool => "bool" | .str => "str" | .list => "list" | .tuple => "tuple" | .dict => "dict" | .cls _ => ""
theorem tyX_all (hK : X.K = T.K) {G H : Hp} {d : D} {v : V} {F : List Addr} (ex : Ext G H) (r : Rp T G H d v F) {t0 : Ty} {b0 : Bool} (e0 : isTy d t0 = some b0) : ∃ n, TyX X.K H v (.type n) ∧ ∀ {t : Ty} {b : Bool}, isTy d t = some b → PySem.W.kitOne X.K (.type n) (.type t.nm) = some b := by
  have ht : ∀ {t : Ty} {b : Bool}, isTy d t = some b → t.nm ∈ clNames := by
    intro t b e
    cases t <;> first | cases e | exact (by decide)
  have key : ∀ u : String, u ∈ tyNames → (∀ {t : Ty} {b : Bool}, isTy d t = some b → subB u t.nm = b) → TyX X.K H v (.type u) → ∃ n, TyX X.K H v (.type n) ∧ ∀ {t : Ty} {b : Bool}, isTy d t = some b → PySem.W.kitOne X.K (.type n) (.type t.nm) = some b :=
    fun u hu eb ty => ⟨u, ty, fun {t b} e => by rw [kit_b X.K u hu _ (ht e), eb e]⟩
  cases d with
  | non =>
    refine key "NoneType" (by decide) ?_ (by rw [r.non]; exact .base .non)
    intro t b e
    cases t <;> first | cases e; rfl | cases e
  | bl k =>
    refine key "bool" (by decide) ?_ (by rw [r.bl]; exact .base (.bl _))
    intro t b e
    cases t <;> first | cases e; rfl | cases e
  | int i =>
    refine key "int" (by decide) ?_ (by rw [r.int]; exact .base (.int _))
    intro t b e
    cases t <;> first | cases e; rfl | cases e
  | str i =>
    refine key "str" (by decide) ?_ (by rw [r.str]; exact .base (.str _))
    intro t b e
    cases t <;> first | cases e; rfl | cases e
  | tup xs =>
    obtain ⟨p, vs, rfl, hp, r1⟩ := r.tup ex
    refine key "tuple" (by decide) ?_ ?_
    · intro t b e
      cases t <;> first | cases e; rfl | cases e
    · rcases hp with (hp | ⟨o, hp⟩) | ⟨o, its, n, hk, hc, _⟩
      · exact .base (.tup hp)
      · exact .fTuple hp
      · rw [hK]; exact .kTuple hk hc
  | lst o xs =>
    obtain ⟨p, vs, F', rfl, hp, r1⟩ := r.lst ex
    refine key "list" (by decide) ?_ (.base (.lst hp))
    intro t b e
    cases t <;> first | cases e; rfl | cases e
  | dct o k ks ds =>
    obtain ⟨_, p, kvs, F', rfl, _, _, _, _, hp⟩ := r.dct ex
    refine key "dict" (by decide) ?_ (.base (.dK hp))
    intro t b e
    cases t <;> first | cases e; rfl | cases e
  | _ => cases t0 <;> cases e0
theorem tyX_of (hK : X.K = T.K) {G H : Hp} {d : D} {v : V} {F : List Addr} (ex : Ext G H) (r : Rp T G H d v F) {t : Ty} {b : Bool} (e : isTy d t = some b) : ∃ n, TyX X.K H v (.type n) ∧ PySem.W.kitOne X.K (.type n) (.type t.nm) = some b := by
  obtain ⟨n, h1, h2⟩ := tyX_all hK ex r e
  exact ⟨n, h1, h2 e⟩
theorem e_isinst {t : Ty} (hK : X.K = T.K) (hg : Gl X "isinstance") (hm : X.mg "isinstance" = none) (ha : PE X ea (tO T W (dO C a))) (hb : PE X eb (tC (.ty t.nm))) (pl : plainE ea = true) (pl2 : plainE eb = true) :
    PE X (.Call (.Name "isinstance" p) [ea, eb] [] pos) (tE T W (dE C (.blt (.isinst t) (.cons a .nil)))) := by
  refine (pe_callB call_isi hg hm PyProof.Rows.boot_isinstance (pa_cons ha (pa_cons hb pa_nil (star_cons pl2 [] X.env)) (star_cons pl [eb] X.env)) (by decide) (by decide) (star_cons pl [eb] X.env) (star_any (by simp [pl2]) X.env pos)).weak fun σ H Q h => ?_
  refine (un_den (sem_op1 T _) (blt1 h)).mono fun v H1 z => ?_
  obtain ⟨G, dx, d, Fx, ex, qx, e, n⟩ := z
  have e : (isTy dx t).map D.bl = some d := e
  obtain ⟨b, eb, ed⟩ := Option.map_eq_some_iff.mp e
  subst ed
  obtain ⟨nm, ty, kk⟩ := tyX_of hK ex qx eb
  exact ⟨v, _, _, _, b, rfl, .ty _, ty, kk, n.bl ex⟩
theorem TyX.up {K : PySem.W.Frag} {H : Hp} {v : V} {t : Value} {q : Addr} {o : HO} (h : TyX K H v t) (hq : H q = none) : TyX K (upd H q o) v t := by
  have k : ∀ a u, H a = some u → (upd H q o) a = some u := Ext.new hq
  cases h with
  | base h =>
    refine .base ?_
    cases h with
    | non => exact .non
    | bl => exact .bl _
    | int => exact .int _
    | str => exact .str _
    | flt => exact .flt _
    | lst e => exact .lst (k _ _ e)
    | frz e => exact .frz (k _ _ e)
    | tup e => exact .tup (k _ _ e)
    | dK e => exact .dK (k _ _ e)
    | dT e => exact .dT (k _ _ e)
    | ins e a b c d f => exact .ins (k _ _ e) a b c d f
  | byt => exact .byt _
  | set e => exact .set (k _ _ e)
  | kList e c => exact .kList e c
  | kTuple e c => exact .kTuple e c
  | kDict e c => exact .kDict e c
  | fTuple e => exact .fTuple (k _ _ e)
  | fDict e => exact .fDict (k _ _ e)
theorem e_isinst2 {t u : Ty} {ec : Expr} {x1 : Nat} {p3 : Pos} (hK : X.K = T.K) (hg : Gl X "isinstance") (hm : X.mg "isinstance" = none) (ha : PE X ea (tO T W (dO C a))) (hb : PE X eb (tC (.ty t.nm))) (hc : PE X ec (tC (.ty u.nm))) (pl : plainE ea = true) (pl2 : plainE eb = true) (pl3 : plainE ec = true) :
    PE X (.Call (.Name "isinstance" p) [ea, .Tuple [eb, ec] x1 p3] [] pos) (tE T W (dE C (.blt (.isinst2 t u) (.cons a .nil)))) := by
  have hes : PA X [eb, ec] _ := pa_cons hb (pa_cons hc pa_nil (star_cons pl3 [] X.env)) (star_cons pl2 [ec] X.env)
  refine (pe_callB call_isiT hg hm PyProof.Rows.boot_isinstance (pa_cons ha (pa_cons (pe_tup hes) pa_nil (star_cons rfl [] X.env)) (star_cons pl [.Tuple [eb, ec] x1 p3] X.env)) (by decide) (by decide) (star_cons pl [.Tuple [eb, ec] x1 p3] X.env) (star_any (by rfl) X.env pos)).weak fun σ H Q h => ?_
  refine (un_den (sem_op1 T _) (blt1 h)).mono fun v H1 z => ?_
  obtain ⟨G, dx, d, Fx, ex, qx, e, n⟩ := z
  refine ⟨by show 2 ≤ sizeLine; rw [sizeLine_eq]; omega, fun q hq => ?_⟩
  have e : (match isTy dx t, isTy dx u with | some a, some b => some (D.bl (a || b)) | _, _ => none) = some d := e
  split at e
  · rename_i b1 b2 e1 e2
    cases e
    obtain ⟨nm2, ty, kkk⟩ := tyX_all hK ex qx e1
    have kk := kkk e1
    have kk2 := kkk e2
    refine ⟨v, q, _, .type nm2, [.type t.nm, .type u.nm], b1 || b2, rfl, upd_same, .cons (.ty _) (.cons (.ty _) .nil), TyX.up ty hq, ?_, ?_⟩
    · unfold PySem.W.kitAny
      rw [kk]
      cases b1 with
      | true => rfl
      | false =>
        unfold PySem.W.kitAny
        rw [kk2]
        cases b2 <;> rfl
    · exact n _ _ _ [] (.newS ex hq) ⟨rfl, rfl⟩
  · cases e
end
end Mp
/-! Sets of ints made from a list: their length, sorted. -/
namespace Mp
open PySem PySem.Spec PyProof.Rows L2
section
variable {P : Program} {w : World} {A : Around} {E : Value → Shared → Prop} {s : Shared}
set_option maxHeartbeats 3200000 in
theorem set_listI {l : Addr} {items : Array Value} (ns : List Int) {Q : Value → Shared → Prop} (hh : A.handled = none) (hl : s.heap.IsList l items) (hit : IntsAre items.toList ns) (hb : ns.length + 1 < scanBound)
    (h : ∀ (h' : Heap) (tk c : Nat), SetR w h' s.heap.objs.size (fun j => decide (j ∈ ns)) c → c ≤ ns.length → (∀ b o, s.heap.get? b = some o → h'.get? b = some o) → Q (.ref s.heap.objs.size) { s with heap := h', toks := tk }) :
    wpAny (model P w) A (call (.type "set") [.ref l]) Q E s := by
  have hisz : items.size = ns.length := by
    have q := IntsAre.length hit
    rw [Array.length_toList] at q
    exact q
  obtain ⟨c, tl, hmro⟩ := F.called_set.mro
  have hmade := F.called_set.made
  have hsub := F.called_set.sub
  refine wpAny_call (codeAny_of_tree ?_)
  show wpAny _ _ (callAny (.type "set") _) _ _ _
  refine wpAny_pure ⟨Code.quiet_builtin _ (by decide +kernel), codeAny_builtin F.entry_type_call ?_⟩
  rw [Around.under_plain (weight_type_call_type "set" [.ref l] []) rfl]
  have h1 := F.called_set.notType
  have h2 := F.called_set.canCreate
  have hct := F.typeCall_set_1 (.ref l)
  repeat (any_goals (first | assumption | wp_step))

  refine codeAny_mono (code_set_led1 (.ref l) (E := E) (Q₁ := fun obj s₁ => obj = .ref s.heap.objs.size ∧ s₁ = { s with heap := s.heap.push { cls := .type "set", dict := none, data := .set #[] 0 (.fresh 0 0 (!w.params.followText "set-order")) } }) ⟨rfl, rfl⟩) fun r s₁ hr => ?_
  cases r with
  | error e => exact hr
  | ok fl =>
    cases fl with
    | ret obj =>
      obtain ⟨rfl, rfl⟩ := hr
      have hS : (s.heap.push { cls := .type "set", dict := none, data := .set #[] 0 (.fresh 0 0 (!w.params.followText "set-order")) }).get? s.heap.objs.size = some { cls := .type "set", dict := none, data := .set #[] 0 (.fresh 0 0 (!w.params.followText "set-order")) } := Heap.get?_push_size _ rfl
      have hT : Shared.TypeIs { s with heap := s.heap.push { cls := .type "set", dict := none, data := .set #[] 0 (.fresh 0 0 (!w.params.followText "set-order")) } } (.ref s.heap.objs.size) "set" := ⟨_, hS, rfl⟩
      have hli := F.called_set.init.lookup
      have hbi := F.called_set.init.bind (.ref s.heap.objs.size)
      repeat (any_goals (first | assumption | wp_step))

      refine codeAny_mono (codeAny_call_builtin (R := wants (fun r s₂ => r = .none ∧ ∃ h' tk c, s₂ = { s with heap := h', toks := tk } ∧ SetR w h' s.heap.objs.size (fun j => decide (j ∈ ns)) c ∧ c ≤ ns.length ∧
          (∀ b o, s.heap.get? b = some o → h'.get? b = some o)) E) F.called_set.init.plain F.entry_set_init (check_set_init_1 hT ?_)) fun r₂ s₂ hr₂ => ?_
      · obtain ⟨ol, hol, hcl, nl, hdl⟩ := hl
        obtain ⟨ocls, odict, odata, oslots⟩ := ol
        simp only at hcl hdl
        subst hcl; subst hdl
        have hol' : (s.heap.push { cls := .type "set", dict := none, data := .set #[] 0 (.fresh 0 0 (!w.params.followText "set-order")) }).get? l = some { cls := .type "list", dict := odict, data := .seq items nl, slots := oslots } := Heap.get?_push_of_some _ hol
        have hsls := F.sub_list_set
        have hslf := F.sub_list_frozenset
        have hne : (Value.type "list" == Value.type "dict") = false := by decide
        have hl1 : (s.heap.push { cls := .type "set", dict := none, data := .set #[] 0 (.fresh 0 0 (!w.params.followText "set-order")) }).IsList l items := ⟨_, hol', rfl, nl, rfl⟩
        unfold Builtin.«set.__init__» noKeywords Builtin.Frozenset.updateFrom
        generalize hPI : pyIter = PI
        wp_walk
        subst hPI

        refine wpAny_pyIter_list hl1 ?_
        refine wpAny_bind (wpAny_runValue ?_)
        have hlS : l < s.heap.objs.size := Heap.lt_size hol
        have hh3 : A.in1.in1.in1.handled = none := by simp [hh]
        have hz1 : (s.heap.push { cls := .type "set", dict := none, data := .set #[] 0 (.fresh 0 0 (!w.params.followText "set-order")) }).objs.size = s.heap.objs.size + 1 := Heap.size_push ..
        have hneI : l ≠ (s.heap.push { cls := .type "set", dict := none, data := .set #[] 0 (.fresh 0 0 (!w.params.followText "set-order")) }).objs.size := by
          rw [Heap.size_push]; exact Nat.ne_of_lt (Nat.lt_succ_of_lt hlS)
        have hSf : s.heap.objs.size ∉ [(s.heap.push { cls := .type "set", dict := none, data := .set #[] 0 (.fresh 0 0 (!w.params.followText "set-order")) }).objs.size, l] := by
          rw [Heap.size_push]; simp only [List.mem_cons, List.mem_singleton, List.not_mem_nil, or_false, not_or]
          exact ⟨Nat.ne_of_lt (Nat.lt_succ_self _), Nat.ne_of_gt hlS⟩
        have hval : ∀ (i : Nat) (v : Value), items[i]? = some v → ∃ k t, ns[i]? = some k ∧ v = .int k t := fun i v hv => by
          have hi : i < ns.length := by rw [← hisz]; exact (Array.getElem?_eq_some_iff.mp hv).1
          obtain ⟨t, e⟩ := PyProof.Rows.IntsAre.int_at hit i v (by rw [Array.getElem?_toList]; exact hv)
          refine ⟨ns[i], t, List.getElem?_eq_getElem hi, ?_⟩
          rw [e, List.getD_eq_getElem?_getD, List.getElem?_eq_getElem hi] <;> rfl
        refine set_update_ints ((Walks.list hh3 _ l hneI items).toS) s.heap.objs.size
          hSf ns hisz hb hval (items.size - 0) 0 _ (by omega) (Nat.zero_le _)
          ⟨⟨_, Heap.get?_push_size _ rfl, rfl, rfl⟩, (hl1.push _)⟩ ?hS0 ?hR
        case hS0 =>
          have hget : ((s.heap.push { cls := .type "set", dict := none, data := .set #[] 0 (.fresh 0 0 (!w.params.followText "set-order")) }).push { cls := .type "list_iterator", data := .fields #[.ref l, .int 0 0] }).get? s.heap.objs.size
              = some { cls := .type "set", dict := none, data := .set #[] 0 (.fresh 0 0 (!w.params.followText "set-order")) } := Heap.get?_push_of_some _ hS
          exact ⟨0, Nat.le_refl 0, setR_new_at hget⟩
        case hR =>
          intro s' c' hm hc' hS'
          obtain ⟨h', g2, d', tk', os'⟩ := s'
          have eg : g2 = s.gens := hm.gens
          have ed : d' = s.drawn := hm.drawn
          have eo : os' = s.os := hm.os
          subst eg; subst ed; subst eo
          show wpAny _ _ _ _ _ _
          refine wpAny_pure ?_
          show wpAny _ _ (ret Value.none) _ _ _
          rw [hisz] at hc'
          refine wpAny_pure ⟨rfl, h', tk', c', rfl, hS', hc', fun b o e => ?_⟩
          have hb0 : b < s.heap.objs.size := Heap.lt_size e
          have hb1 : b ≠ s.heap.objs.size := Nat.ne_of_lt hb0
          have hb2 : b ≠ (s.heap.push { cls := .type "set", dict := none, data := .set #[] 0 (.fresh 0 0 (!w.params.followText "set-order")) }).objs.size := by
            rw [Heap.size_push]; exact Nat.ne_of_lt (Nat.lt_succ_of_lt hb0)
          exact hm.heap b o (by simp only [List.mem_cons, List.mem_singleton, List.not_mem_nil, or_false, not_or]; exact ⟨hb1, hb2⟩) (Heap.get?_push_of_some _ (Heap.get?_push_of_some _ e))

      · cases r₂ with
        | error e => exact hr₂
        | ok fl₂ =>
          cases fl₂ with
          | ret r =>
            obtain ⟨rfl, h', tk, c', rfl, hS', hc', hk'⟩ := hr₂
            repeat (any_goals (first | assumption | wp_step))
            exact h _ _ _ hS' hc' hk'
          | _ => exact hr₂.elim
    | _ => exact hr.elim

end
section
theorem mem_dedI {k : Int} : ∀ {xs : List Int}, k ∈ dedI xs ↔ k ∈ xs
  | [] => Iff.rfl
  | x :: xs => by
    unfold dedI
    split
    · rename_i h
      rw [mem_dedI, List.mem_cons]
      refine ⟨.inr, fun z => z.elim (fun e => ?_) id⟩
      rw [e]
      simpa using h
    · rw [List.mem_cons, List.mem_cons, mem_dedI]
theorem nodup_dedI : ∀ xs : List Int, (dedI xs).Nodup
  | [] => List.nodup_nil
  | x :: xs => by
    unfold dedI
    split
    · exact nodup_dedI xs
    · rename_i h
      refine List.nodup_cons.mpr ⟨fun z => h ?_, nodup_dedI xs⟩
      have := mem_dedI.mp z
      simpa using this
variable {X : Cx} {T : Tab} {W : WX} {C : Cfg} {ea : Expr} {pos p p2 q : Pos} {a : O}
/-- set(xs) of a list of ints, in a call of f -/
theorem set_arg {f : String} {Q : VK} {pins : List (Addr × Obj)} {s : Shared} {σ : L2.St} {H : Hp} {u : Value} {x : V} {Fx : List Addr} {G : Hp} {ns : List Int} {o : Bool} {ys : List D} (hc : X.calm = true) (I : L2.Inv X pins σ H s) (ru : RelV x u) (ex : Ext G H) (r : Rp T G H (.lst o ys) x Fx)
    (t : toInts ys = some ns) (hl : ns.length + 1 < scanBound) {QQ : Value → Shared → Prop}
    (k : ∀ (h' : Heap) (tk c : Nat), SetR X.w h' s.heap.objs.size (fun j => decide (j ∈ ns)) c → c ≤ ns.length → L2.Inv X pins σ H { s with heap := h', toks := tk } → QQ (.ref s.heap.objs.size) { s with heap := h', toks := tk }) :
    wpAny (model X.prog X.w) X.A (call (.type "set") [u]) QQ X.xe s := by
  obtain ⟨l, vs, F', rfl, hp, r1⟩ := r.lst ex
  have e2 := RpL.toI r1 t
  subst e2
  cases ru
  obtain ⟨its, rv, pl, hz⟩ := I.list (.inl (.inl hp))
  exact set_listI ns (I.ok.hd hc) pl.isList (by simpa using rv.ints) hl fun h' tk c R hcl hk => k h' tk c R hcl (I.kept hk)
theorem e_lenset (hc : X.calm = true) (hg : Gl X "len") (hm : X.mg "len" = none) (hg2 : Gl X "set") (hm2 : X.mg "set" = none) (ha : PE X ea (tO T W (dO C a))) (pl : plainE ea = true) :
    PE X (.Call (.Name "len" p) [.Call (.Name "set" p2) [ea] [] q] [] pos) (tE T W (dE C (.blt .lenset (.cons a .nil)))) := by
  refine ⟨fun pins s σ H Q I h => ?_⟩
  have h := un_den (sem_op1 T _) (blt1 h)
  refine Call_ (ld_blt I hg hm PySem.boot_len ?_)
  refine callWith_builtin1 (args_cons ?_ rfl) rfl rfl
  refine Call_ (ld_blt I hg2 hm2 PyProof.Rows.boot_set ?_)
  refine callWith_type1 (args_cons (thn (ha.run pins s σ H _ I h) fun v s1 ⟨x, H1, I1, r1, q1⟩ => args_nil ?_) (star_cons pl [] X.env)) (star_cons pl [] X.env) rfl
  obtain ⟨G, dx, d, Fx, ex, qx, e, n⟩ := q1
  cases dx with
  | lst o ys =>
    have e : (match toInts ys with | some a => (if decide (a.length < 1000) then some (D.int (dedI a).length) else none) | none => none) = some d := e
    split at e
    · rename_i ns et
      split at e
      · rename_i hl
        cases e
        refine set_arg (f := "len") (Q := Q) hc I1 r1 ex qx et (by have := of_decide_eq_true hl; unfold scanBound; omega) fun h' tk c R hcl I2 => ?_
        obtain ⟨ob, es, ep, t, ho, hex, hd, g, nd, hm', hb, hf, hn, _⟩ := R
        refine args_nil ?_
        refine call_len_set ho hex hd hf (by rw [hn]; have := of_decide_eq_true hl; omega) ⟨.int es.size, H1, I2.tok _, ⟨_, rfl⟩, ?_⟩
        have pm : (es.toList.map L2.keyOf).Perm (dedI ns) := (List.perm_ext_iff_of_nodup nd (nodup_dedI ns)).mpr fun k => by
          rw [mem_dedI, ← hm' k]
          exact decide_eq_true_iff
        have el : es.size = (dedI ns).length := by rw [← pm.length_eq, List.length_map, Array.length_toList]
        rw [el]
        exact n.int ex
      · cases e
    · cases e
  | _ => cases e
theorem e_sortedset (hc : X.calm = true) (hg : Gl X "sorted") (hm : X.mg "sorted" = none) (hg2 : Gl X "set") (hm2 : X.mg "set" = none) (ha : PE X ea (tO T W (dO C a))) (pl : plainE ea = true) :
    PE X (.Call (.Name "sorted" p) [.Call (.Name "set" p2) [ea] [] q] [] pos) (tE T W (dE C (.blt .sortedset (.cons a .nil)))) := by
  refine ⟨fun pins s σ H Q I h => ?_⟩
  have h := un_den (sem_op1 T _) (blt1 h)
  refine Call_ (ld_blt I hg hm PyProof.Rows.boot_sorted ?_)
  refine callWith_builtin1 (args_cons ?_ rfl) rfl rfl
  refine Call_ (ld_blt I hg2 hm2 PyProof.Rows.boot_set ?_)
  refine callWith_type1 (args_cons (thn (ha.run pins s σ H _ I h) fun v s1 ⟨x, H1, I1, r1, q1⟩ => args_nil ?_) (star_cons pl [] X.env)) (star_cons pl [] X.env) rfl
  obtain ⟨G, dx, d, Fx, ex, qx, e, n⟩ := q1
  cases dx with
  | lst o ys =>
    have e : (match toInts ys with | some a => (if decide (a.length < 60) then some (D.lst true ((sortI (dedI a)).map D.int)) else none) | none => none) = some d := e
    split at e
    · rename_i ns et
      split at e
      · rename_i hl
        cases e
        have hl := of_decide_eq_true hl
        refine set_arg (f := "sorted") (Q := Q) hc I1 r1 ex qx et (by unfold scanBound; omega) fun h' tk c R hcl I2 => ?_
        refine args_nil ?_
        refine sorted_set R (I2.ok.hd hc) (by omega) fun s' p out c' ns' k g o hp hg' hi hs hmm hln => ?_
        have hlen : (ns'.map V.int).length ≤ sizeLine := by rw [List.length_map, hln, sizeLine_eq]; omega
        have hn : H1 p = none := I2.hok.fresh hp
        have J := I2.call (ch := []) (h' := s'.heap) (g' := s'.gens) (d' := s'.drawn) (t' := s'.toks) (Un.laid (o := .lst (ns'.map V.int)) k hp hn) (I2.hok.laid k hp (o := .lst (ns'.map V.int)) ⟨hlen, out.toList, c', vals_of_ints hi, hg'⟩) (by rw [g]; exact I2.bare) (fun _ z => nomatch z)
        have e : s' = { heap := s'.heap, gens := s'.gens, drawn := s'.drawn, toks := s'.toks, os := s1.os } := by
          cases s'
          cases s1
          cases o
          rfl
        rw [e]
        have nd : ns'.Nodup := hs.imp fun h e => by omega
        have pm : ns'.Perm (dedI ns) := (List.perm_ext_iff_of_nodup nd (nodup_dedI ns)).mpr fun k => by
          rw [mem_dedI, hmm k]
          exact decide_eq_true_iff
        have es := sort_uniq pm (hs.imp fun h => Int.le_of_lt h)
        refine ⟨.ref p, _, J, rfl, ?_⟩
        rw [es]
        exact n.ints ex hn
      · cases e
    · cases e
  | _ => cases e
end
end Mp
/-! Calls of the law's own defs. -/
namespace Mp
open PySem L2

/-- what a def promises, by data -/
def spOf (T : Tab) (f : Fn) : Sp := fun vs H Q E => ∃ G ds F, Ext G H ∧ RpL T G H ds vs F ∧ F.Nodup ∧ (∀ a ∈ F, G a = none) ∧ match f ds with
  | .ok d outs => ∀ v H' G' Fv F', Step G H F G' H' (Fv ++ F') → Rp T G' H' d v Fv → RpL T G' H' outs vs F' → Q v H'
  | .exc c x => ∀ H' dd G' w, Step G H F G' H' [] → G' dd = some (.xd [(T.xf c, w)]) → Rp T G' H' x w [] → XOk T c x → E (.ref (T.xa c)) (some dd) H'
  | .stuck => False

section
variable {T : Tab} {W : WX} {G G' H H' : Hp} {ρ : Env} {σ : L2.St} {F : List Addr}
/-- operands that stand as long as they can be read -/
def TmpW (T : Tab) (G H : Hp) (ρ : Env) (σ : L2.St) : List OV → List V → List Addr → Prop
  | [], vs, F => vs = [] ∧ F = []
  | .tm d :: as, vs, F => ∃ v ws F1 F2, vs = v :: ws ∧ F = F1 ++ F2 ∧ Rp T G H d v F1 ∧ TmpW T G H ρ σ as ws F2
  | .pl i π :: as, vs, F => ∃ v ws, vs = v :: ws ∧ (∀ c, getS ρ i π = some c → VAt T H ρ σ i π v) ∧ TmpW T G H ρ σ as ws F
theorem TmpL.w : ∀ {as : List OV} {vs : List V} {F : List Addr}, TmpL T G H ρ σ as vs F → TmpW T G H ρ σ as vs F
  | [], vs, F, h => h
  | .tm d :: as, vs, F, h => by
    obtain ⟨v, ws, F1, F2, e, ef, t, r⟩ := h
    exact ⟨v, ws, F1, F2, e, ef, t, TmpL.w r⟩
  | .pl i π :: as, vs, F, h => by
    obtain ⟨v, ws, F1, F2, e, ef, ⟨e1, va⟩, r⟩ := h
    subst e1 ef
    exact ⟨v, ws, e, fun _ _ => va, TmpL.w r⟩
theorem slot_set_ne {ρ : Env} {i j : Nat} {d : D} (h : i ≠ j) : slot (ρ.set i d) j = slot ρ j := by
  unfold slot
  rw [List.getD_eq_getElem?_getD, List.getD_eq_getElem?_getD, List.getElem?_set_ne h]
theorem slot_set_gone {ρ : Env} {i : Nat} : slot (ρ.set i .gone) i = .gone := by
  unfold slot
  rw [List.getD_eq_getElem?_getD, List.getElem?_set]
  split
  · split <;> rfl
  · rename_i h; exact absurd rfl h
theorem getS_gone {ρ : Env} {i : Nat} (h : slot ρ i = .gone) : ∀ π, getS ρ i π = none := fun π => by
  unfold getS
  rw [h]
  cases π with
  | nil => rfl
  | cons n π => rfl
theorem TmpW.gone {i : Nat} : ∀ {as : List OV} {vs : List V} {F : List Addr}, TmpW T G H ρ σ as vs F → TmpW T G H (ρ.set i .gone) σ as vs F
  | [], vs, F, h => h
  | .tm d :: as, vs, F, h => by
    obtain ⟨v, ws, F1, F2, e, ef, t, r⟩ := h
    exact ⟨v, ws, F1, F2, e, ef, t, TmpW.gone r⟩
  | .pl j π :: as, vs, F, h => by
    obtain ⟨v, ws, e, va, r⟩ := h
    refine ⟨v, ws, e, fun c ec => ?_, TmpW.gone r⟩
    by_cases hij : i = j
    · subst hij
      rw [getS_gone slot_set_gone] at ec
      cases ec
    · have es : slot (ρ.set i .gone) j = slot ρ j := slot_set_ne hij
      have : getS ρ j π = some c := by
        unfold getS at ec ⊢
        rw [es] at ec
        exact ec
      obtain ⟨u, eu, pv⟩ := va c this
      exact ⟨u, eu, by rw [es]; exact pv⟩
theorem TmpW.trk : ∀ {as : List OV} {vs : List V} {F : List Addr}, TmpW T G H ρ σ as vs F → Trk H F
  | [], vs, F, h => by obtain ⟨_, rfl⟩ := h; exact fun _ z => nomatch z
  | .tm d :: as, vs, F, h => by
    obtain ⟨v, ws, F1, F2, _, rfl, t, r⟩ := h
    intro x hx
    rcases List.mem_append.mp hx with z | z
    · exact Rp.trk _ _ _ t x z
    · exact TmpW.trk r x z
  | .pl i π :: as, vs, F, h => by
    obtain ⟨v, ws, _, _, r⟩ := h
    exact TmpW.trk r
theorem take_raw {i : Nat} {π : List Nat} {d : D} {v : V} (P : Pre T G H ρ σ F) (va : VAt T H ρ σ i π v) (e : getS ρ i π = some d) : ∃ F1 F3, Rp T G H d v F1 ∧ Step G H F G H (F1 ++ F3) ∧ RpE T G H (setS ρ i π .gone) σ F3 := by
  obtain ⟨F1, r, n1, g1, put⟩ := P.change e va
  obtain ⟨F', ev⟩ := put (Fv := F1) (F1' := []) (G' := G) (H' := H) (c' := .gone) ⟨.refl _, P.ex, fun _ _ q _ => q, fun a ha => .inl (by rw [List.append_nil] at ha; exact ha), fun _ _ q => .inl q, by rw [List.append_nil]; exact n1, fun a ha => g1 a (by rw [List.append_nil] at ha; exact ha)⟩ (by simp only [Rp])
  exact ⟨F1, F', r, ev.step, ev.env⟩
/-- the slots that are lent hold the values -/
def Lent (σ : L2.St) : List (Option Nat) → List V → Prop
  | [], vs => vs = []
  | b :: bs, vs => ∃ v ws, vs = v :: ws ∧ (∀ i, b = some i → σ[i]? = some (some v)) ∧ Lent σ bs ws
theorem takeL_ok : ∀ {as : List OV} {vs : List V} {ρ : Env} {Fv F : List Addr} {ds : List D} {bs : List (Option Nat)} {o : Option Env}, Ext G H → RpE T G H ρ σ F → (Fv ++ F).Nodup → (∀ a ∈ Fv ++ F, G a = none) → TmpW T G H ρ σ as vs Fv → takeL as ρ = some (ds, bs, o) →
    ∃ Fd F', Step G H (Fv ++ F) G H (Fd ++ F') ∧ RpE T G H (now ρ o) σ F' ∧ RpL T G H ds vs Fd ∧ (o = none → F' = F) ∧ Lent σ bs vs
  | [], vs, ρ, Fv, F, ds, bs, o, ex, re, nd, gn, h, e => by
    cases e
    obtain ⟨rfl, rfl⟩ := h
    exact ⟨[], F, ⟨.refl _, ex, fun _ _ q _ => q, fun a ha => .inl ha, fun _ _ q => .inl q, nd, gn⟩, re, ⟨rfl, rfl⟩, fun _ => rfl, rfl⟩
  | .tm d :: as, vs, ρ, Fv, F, ds, bs, o, ex, re, nd, gn, h, e => by
    obtain ⟨v, ws, F1, F2, rfl, rfl, r1, r2⟩ := h
    simp only [takeL, takeV, now_none] at e
    split at e
    · cases e
    · rename_i ds' bs' o2 e2
      cases e
      rw [List.append_assoc] at nd gn
      obtain ⟨n1, n2, n3⟩ := List.nodup_append.mp nd
      obtain ⟨Fd, F', s, re', rl, eo, ln⟩ := takeL_ok ex re n2 (fun a ha => gn a (List.mem_append_right _ ha)) r2 e2
      refine ⟨F1 ++ Fd, F', ?_, ?_, ⟨v, ws, F1, Fd, rfl, rfl, r1, rl⟩, ?_, ⟨v, ws, rfl, (fun i z => nomatch z), ln⟩⟩
      · have m := s.more (Rp.trk _ _ _ r1) (fun a ha => gn a (List.mem_append_left _ ha)) n1 fun a ha hb => n3 a ha a hb rfl
        rw [List.append_assoc, List.append_assoc]
        exact m
      · cases o2 <;> exact re'
      · intro z; cases o2 with
        | none => exact eo rfl
        | some r => cases z
  | .pl i π :: as, vs, ρ, Fv, F, ds, bs, o, ex, re, nd, gn, h, e => by
    obtain ⟨v, ws, rfl, va, r2⟩ := h
    have P : Pre T G H ρ σ F := ⟨ex, re, (List.nodup_append.mp nd).2.1, fun a ha => gn a (List.mem_append_right _ ha)⟩
    simp only [takeL, takeV] at e
    cases eg : getS ρ i π with
    | none => simp only [eg] at e; cases e
    | some c =>
      simp only [eg] at e
      have va := va c eg
      cases hs : sh c with
      | true =>
        simp only [hs, now_none] at e
        split at e
        · cases e
        · rename_i ds' bs' o2 e2
          cases e
          obtain ⟨F1, rc, _⟩ := P.change eg va
          obtain ⟨Fd, F', s, re', rl, eo, ln⟩ := takeL_ok ex re nd gn r2 e2
          refine ⟨Fd, F', s, ?_, ⟨v, ws, [], Fd, rfl, rfl, Rp.sh hs rc (.refl _), rl⟩, ?_, ⟨v, ws, rfl, (fun i z => nomatch z), ln⟩⟩
          · cases o2 <;> exact re'
          · intro z; cases o2 with
            | none => exact eo rfl
            | some r => cases z
      | false =>
        simp only [hs] at e
        cases π with
        | cons n π => cases e
        | nil =>
          simp only at e
          split at e
          · cases e
          · rename_i ds' bs' o2 e2
            cases e
            obtain ⟨F1, F3, rc, s1, re1⟩ := take_raw P va eg
            have s1 : Step G H (Fv ++ F) G H (Fv ++ (F1 ++ F3)) := s1.more (TmpW.trk r2) (fun a ha => gn a (List.mem_append_left _ ha)) (List.nodup_append.mp nd).1 fun a ha hb => (List.nodup_append.mp nd).2.2 a ha a hb rfl
            have pm : (Fv ++ (F1 ++ F3)).Perm (F1 ++ (Fv ++ F3)) := by
              rw [← List.append_assoc, ← List.append_assoc]
              exact List.perm_append_comm.append_right F3
            have s2 := s1.perm (.refl _) pm
            obtain ⟨n1, n2, n3⟩ := List.nodup_append.mp s2.nd
            obtain ⟨Fd, F', s, re', rl, eo, ln⟩ := takeL_ok ex re1 n2 (fun a ha => s2.gn a (List.mem_append_right _ ha)) r2.gone e2
            obtain ⟨w, ew, ev⟩ := va
            have ev : w = v := ev
            subst ev
            refine ⟨F1 ++ Fd, F', ?_, ?_, ⟨w, ws, F1, Fd, rfl, rfl, rc, rl⟩, ?_, ⟨w, ws, rfl, (fun j z => by cases z; exact ew), ln⟩⟩
            · have m := s.more (Rp.trk _ _ _ rc) (fun a ha => s2.gn a (List.mem_append_left _ ha)) n1 fun a ha hb => n3 a ha a hb rfl
              rw [List.append_assoc]
              exact s2.trans m
            · cases o2 <;> exact re'
            · intro z; cases o2 <;> cases z
/-- what was lent comes back -/
theorem set_same {α : Type} {xs : List α} {i : Nat} {x : α} (h : xs[i]? = some x) : xs.set i x = xs := List.ext_getElem? fun j => by
  rw [List.getElem?_set]
  split
  · rename_i hj
    subst hj
    split
    · exact h.symm
    · rename_i hn
      rw [List.getElem?_eq_none (by omega)]
  · rfl
theorem RpE.put {i : Nat} {d : D} {v : V} {F1 : List Addr} (re : RpE T G H ρ σ F) (nd : (F1 ++ F).Nodup) (r : Rp T G H d v F1) (e : σ[i]? = some (some v)) : ∃ F', F'.Nodup ∧ (∀ a ∈ F', a ∈ F1 ++ F) ∧ RpE T G H (ρ.set i d) σ F' := by
  obtain ⟨n1, n2, n3⟩ := List.nodup_append.mp nd
  by_cases hi : i < ρ.length
  · obtain ⟨s, A, R, es, pm, rs, put⟩ := re.focus hi
    obtain ⟨F', pm', re'⟩ := put (.refl _) (fun a ha o q => q) (.inr ⟨v, rfl, r⟩)
    rw [set_same e] at re'
    have nR := (List.nodup_append.mp (pm.nodup_iff.mp n2)).2.1
    have sub : ∀ a ∈ R, a ∈ F := fun a ha => pm.mem_iff.mpr (List.mem_append_right _ ha)
    refine ⟨F', pm'.nodup_iff.mpr (List.nodup_append.mpr ⟨n1, nR, fun a ha b hb => n3 a ha b (sub b hb)⟩), fun a ha => ?_, re'⟩
    rcases List.mem_append.mp (pm'.mem_iff.mp ha) with z | z
    · exact List.mem_append_left _ z
    · exact List.mem_append_right _ (sub a z)
  · rw [List.set_eq_of_length_le (by omega)]
    exact ⟨F, n2, fun a ha => List.mem_append_right _ ha, re⟩
theorem giveL_ok : ∀ {bs : List (Option Nat)} {vs : List V} {outs : List D} {ρ : Env} {Fo F : List Addr}, RpE T G H ρ σ F → (Fo ++ F).Nodup → RpL T G H outs vs Fo → Lent σ bs vs → ∃ F', F'.Nodup ∧ (∀ a ∈ F', a ∈ Fo ++ F) ∧ RpE T G H (giveL bs outs ρ) σ F'
  | [], vs, outs, ρ, Fo, F, re, nd, rl, ln => by
    refine ⟨F, (List.nodup_append.mp nd).2.1, fun a ha => List.mem_append_right _ ha, ?_⟩
    unfold giveL
    exact re
  | b :: bs, vs, [], ρ, Fo, F, re, nd, rl, ln => by
    refine ⟨F, (List.nodup_append.mp nd).2.1, fun a ha => List.mem_append_right _ ha, ?_⟩
    cases b <;> exact re
  | b :: bs, vs, x :: outs, ρ, Fo, F, re, nd, rl, ln => by
    obtain ⟨v, ws, e1, hb, ln⟩ := ln
    obtain ⟨v', ws', F1, F2, e2, rfl, r1, rl⟩ := rl
    rw [e1] at e2
    cases e2
    rw [List.append_assoc] at nd
    obtain ⟨n1, n2, n3⟩ := List.nodup_append.mp nd
    cases b with
    | none =>
      obtain ⟨F', a, b, c⟩ := giveL_ok re n2 rl ln
      exact ⟨F', a, fun q hq => by rw [List.append_assoc]; exact List.mem_append_right _ (b q hq), c⟩
    | some i =>
      have nd1 : (F1 ++ F).Nodup := by
        refine nd.sublist ?_
        exact (List.sublist_append_right F2 F).append_left F1
      obtain ⟨F3, m1, m2, re1⟩ := re.put nd1 r1 (hb i rfl)
      have nd2 : (F2 ++ F3).Nodup := by
        obtain ⟨k1, k2, k3⟩ := List.nodup_append.mp n2
        refine List.nodup_append.mpr ⟨k1, m1, fun p hp q hq => ?_⟩
        rcases List.mem_append.mp (m2 q hq) with z | z
        · exact fun e => n3 q z p (List.mem_append_left _ hp) e.symm
        · exact k3 p hp q z
      obtain ⟨F', a, b, c⟩ := giveL_ok re1 nd2 rl ln
      refine ⟨F', a, fun q hq => ?_, c⟩
      rw [List.append_assoc]
      rcases List.mem_append.mp (b q hq) with z | z
      · exact List.mem_append_right _ (List.mem_append_left _ z)
      · rcases List.mem_append.mp (m2 q z) with z | z
        · exact List.mem_append_left _ z
        · exact List.mem_append_right _ (List.mem_append_right _ z)
theorem giveL_none {bs : List (Option Nat)} : ∀ {outs : List D} {ρ : Env}, bs.any (·.isSome) = false → giveL bs outs ρ = ρ := by
  induction bs with
  | nil => intro outs ρ _; unfold giveL; rfl
  | cons b bs ih =>
    intro outs ρ h
    rw [List.any_cons, Bool.or_eq_false_iff] at h
    cases b with
    | some i => cases h.1
    | none =>
      cases outs with
      | nil => rfl
      | cons x xs => exact ih h.2
/-- the call of a function of data -/
theorem runF_ok {fn : Fn} {as : List OV} {vs : List V} {o : Option Env} {G1 H1 : Hp} {Fv F1 : List Addr} {Q : VK} (E : Ev T G H F ρ σ o G1 H1 Fv F1) (t : TmpL T G1 H1 (now ρ o) σ as vs Fv)
    (h : Post (runF fn as (now ρ o) o) (fun (d, o') => ∀ v H', OkE T G H F ρ σ o' d v H' → Q v H') (Xi T W G H F σ)) : spOf T fn vs H1 Q (WE W σ) := by
  unfold runF at h
  cases et : takeL as (now ρ o) with
  | none => simp only [et] at h; exact h.elim
  | some q =>
    obtain ⟨ds, bs, o1⟩ := q
    simp only [et] at h
    obtain ⟨Fd, F', s, re, rl, eo, ln⟩ := takeL_ok E.step.h E.env E.step.nd E.step.gn t.w et
    have S := E.step.trans s
    obtain ⟨n1, n2, n3⟩ := List.nodup_append.mp S.nd
    have dj : ∀ a ∈ F', a ∉ Fd := fun a ha hb => n3 a hb a ha rfl
    refine ⟨G1, ds, Fd, E.step.h, rl, n1, fun a ha => S.gn a (List.mem_append_left _ ha), ?_⟩
    cases ef : fn ds with
    | stuck => simp only [ef] at h; exact h.elim
    | exc c x =>
      simp only [ef] at h ⊢
      intro H' dd G' w s' hd rx fx
      refine h H' dd ⟨G', F', ?_, ?_, w, hd, rx, fx⟩
      · have m := s'.more (R := F') re.trk (fun a ha => S.gn a (List.mem_append_right _ ha)) n2 dj
        rw [List.append_nil] at m
        exact (S.perm (.refl _) List.perm_append_comm).trans m
      · exact re.mono s'.g fun a ha q e => s'.keep a q e (dj a ha)
    | ok d outs =>
      simp only [ef] at h ⊢
      intro v H' G' Fw Fo s' rd ro
      have m := s'.more (R := F') re.trk (fun a ha => S.gn a (List.mem_append_right _ ha)) n2 dj
      have S2 := (S.perm (.refl _) List.perm_append_comm).trans m
      have re' : RpE T G' H' (now (now ρ o) o1) σ F' := re.mono s'.g fun a ha q e => s'.keep a q e (dj a ha)
      obtain ⟨k1, k2, k3⟩ := List.nodup_append.mp S2.nd
      obtain ⟨k4, k5, k6⟩ := List.nodup_append.mp k2
      have ndo : (Fo ++ F').Nodup := List.nodup_append.mpr ⟨k5, k1, fun a ha b hb e => k3 b hb a (List.mem_append_right _ ha) e.symm⟩
      obtain ⟨F3, m1, m2, re3⟩ := giveL_ok re' ndo ro ln
      have S3 : Step G H F G' H' (Fw ++ F3) := S2.less (List.nodup_append.mpr ⟨k4, m1, fun a ha b hb => by
          rcases List.mem_append.mp (m2 b hb) with z | z
          · exact k6 a ha b z
          · exact fun e => k3 b z a (List.mem_append_left _ ha) e.symm⟩) fun a ha => by
        rcases List.mem_append.mp ha with z | z
        · exact List.mem_append_right _ (List.mem_append_left _ z)
        · rcases List.mem_append.mp (m2 a z) with z | z
          · exact List.mem_append_right _ (List.mem_append_right _ z)
          · exact List.mem_append_left _ z
      refine h v H' ?_
      show OkE T G H F ρ σ (given bs outs (now (now ρ o) o1) (orE o1 o)) d v H'
      unfold given
      cases hb : bs.any (·.isSome) with
      | true => exact ⟨G', Fw, F3, ⟨S3, re3, fun z => nomatch z⟩, rd⟩
      | false =>
        rw [giveL_none hb] at re3
        refine ⟨G', Fw, F', ⟨S2.less (List.nodup_append.mpr ⟨k4, k1, fun a ha b hb e => k3 b hb a (List.mem_append_left _ ha) e.symm⟩) fun a ha => ?_, by rw [← now_now]; exact re', fun z => ?_⟩, rd⟩
        · rcases List.mem_append.mp ha with z | z
          · exact List.mem_append_right _ (List.mem_append_left _ z)
          · exact List.mem_append_left _ z
        · have e1 : o1 = none := by cases o1 with
            | none => rfl
            | some r => cases z
          subst e1
          have e2 : o = none := z
          obtain ⟨xh, ef'⟩ := E.calm e2
          have eF := eo rfl
          refine ⟨fun a q e => s'.keep a q (xh a q e) fun hd => ?_, eF.trans ef'⟩
          have nF : a ∉ F' := fun hb => n3 a hd a hb rfl
          rcases s.sub a (List.mem_append_left _ hd) with z | z
          · rcases List.mem_append.mp z with z | z
            · rcases E.step.sub a (List.mem_append_left _ z) with z | z
              · exact nF (by rw [eF, ef']; exact z)
              · rw [e] at z; cases z
            · exact nF (by rw [eF]; exact z)
          · rw [xh a q e] at z; cases z
end
end Mp
/-! Calls by name, methods, new instances; methods of lists and dicts. -/
namespace Mp
open PySem L2

section
variable {T : Tab} {W : WX} {G G' H H' : Hp} {ρ : Env} {σ : L2.St} {F : List Addr} {Q : VK}
theorem tOs.mono {den : Env → R (List OV × Option Env)} {Q Q' : List V → Hp → Prop} (h : tOs T W den σ H Q) (k : ∀ v H', Q v H' → Q' v H') : tOs T W den σ H Q' := by
  obtain ⟨G, ρ, F, P, h⟩ := h
  exact ⟨G, ρ, F, P, h.imp (fun (a, o) h v H' z => k v H' (h v H' z)) fun _ _ _ z => z⟩
theorem tEs.mono {den : Env → R (List D × Option Env)} {Q Q' : List V → Hp → Prop} (h : tEs T W den σ H Q) (k : ∀ v H', Q v H' → Q' v H') : tEs T W den σ H Q' := by
  obtain ⟨G, ρ, F, P, h⟩ := h
  exact ⟨G, ρ, F, P, h.imp (fun (a, o) h v H' z => k v H' (h v H' z)) fun _ _ _ z => z⟩
theorem call_den {C : Cfg} {f : Nat} {os : Os} (h : tE T W (dE C (.call f os)) σ H Q) : tOs T W (dOs C os) σ H fun vs H1 => spOf T (C.fn f) vs H1 Q (WE W σ) := by
  obtain ⟨G, ρ, F, P, h⟩ := h
  simp only [dE] at h
  exact ⟨G, ρ, F, P, h.bind.imp (fun (as, o) h vs H1 ⟨G1, Fv, F1, E, t⟩ => runF_ok E t h) fun _ _ _ z => z⟩
end

/-- a def that the code calls by its name -/
structure Callee (X : Cx) (T : Tab) (fn : Fn) (x : Str) : Prop where
  ok : ∃ k a fd ps, FnOk X.prog X.w X.K X.mg X.base (L2.CX X.prog X.w) k a fd ps (spOf T fn) ∧ Room k X.A ∧ X.mg x = some (.ref a) ∧ PySem.W.keepIn X.K (.ref a) = true ∧ Binds X.K fd ps []
/-- a method of the class at c -/
structure CalleeM (X : Cx) (T : Tab) (fn : Fn) (c : Nat) (m : Str) : Prop where
  ok : ∃ k a fd ps, FnOk X.prog X.w X.K X.mg X.base (L2.CX X.prog X.w) k a fd ps (spOf T fn) ∧ Room k X.A ∧ Meth X.K (T.ca c) m a ∧ Binds X.K fd ps []
  no : ∀ f, f < T.nf → T.fnm f ≠ m
/-- a class that is made -/
structure Maker (X : Cx) (T : Tab) (fn : Fn) (c : Nat) (x : Str) : Prop where
  ok : ∃ k a fd ps, FnOk X.prog X.w X.K X.mg X.base (L2.CX X.prog X.w) k a fd ps (spOf T fn) ∧ Room (k + 1) X.A ∧ X.mg x = some (.ref (T.ca c)) ∧ Mk X.K (T.ca c) a ∧ Binds X.K fd ps []
section
variable {X : Cx} {T : Tab} {W : WX} {C : Cfg} {x m : Str} {f c : Nat} {os : Os} {eo e : Expr} {es : List Expr} {pos p apos : Pos}
theorem e_call (cf : Callee X T (C.fn f) x) (tk : L2.Takes X W) (hg : Gl X x) (hdb : (x == ("__debug__" : Str)) = false) (ha : PA X (e :: es) (tOs T W (dOs C os))) (pl : (e :: es).all plainE = true) : PE X (.Call (.Name x p) (e :: es) [] pos) (tE T W (dE C (.call f os))) := by
  obtain ⟨k, a, fd, ps, F, hr, hm, hk, hb⟩ := cf.ok
  rw [List.all_cons, Bool.and_eq_true] at pl
  refine (pe_callSD (E := WE W) F hr hg hm hk hb .nil (fun σ => L2.passAt tk σ) ha hdb (star_cons pl.1 es X.env) (star_any pl.2 X.env pos)).weak fun σ H Q h => ?_
  exact (call_den h).mono fun vs H1 z => by rw [List.append_nil]; exact z
theorem e_call0 (cf : Callee X T (C.fn f) x) (tk : L2.Takes X W) (hg : Gl X x) (hdb : (x == ("__debug__" : Str)) = false) : PE X (.Call (.Name x p) [] [] pos) (tE T W (dE C (.call f .nil))) := by
  obtain ⟨k, a, fd, ps, F, hr, hm, hk, hb⟩ := cf.ok
  refine ⟨fun pins s σ H Q I h => ?_⟩
  obtain ⟨G, ρ, F0, P, h⟩ := call_den h
  simp only [dOs] at h
  have h := h [] H ⟨G, [], F0, P.ev0, rfl, rfl⟩
  refine wpAny_Call_Name_kw (ld_glob I hg hm ?_ hdb)
  exact PySem.W.callWith_K0 I.kIn hk (run_fnSD (us := []) (E := WE W) F hr hb .nil (L2.passAt tk σ) I .nil h)
theorem lookup_no {ins : List Nat} {vs : List V} (h : ∀ f ∈ ins, T.fnm f ≠ m) : ((ins.map T.fnm).zip vs).lookup m = none := by
  induction ins generalizing vs with
  | nil => rfl
  | cons f r ih =>
    cases vs with
    | nil => rfl
    | cons v vs =>
      simp only [List.map_cons, List.zip_cons_cons, List.lookup_cons]
      rw [beq_eq_false_iff_ne.mpr (fun z => h f List.mem_cons_self z.symm)]
      exact ih fun g hg => h g (List.mem_cons_of_mem _ hg)
/-- a method's den -/
theorem meth_den {a : O} {σ : L2.St} {H : Hp} {Q : VK} (no : ∀ f, f < T.nf → T.fnm f ≠ m) (h : tE T W (dE C (.meth f c a os)) σ H Q) :
    tO T W (dO C a) σ H fun x H1 => ∃ q dx fs, x = .ref q ∧ H1 q = some (.ins (T.ca c) dx fs) ∧ fs.lookup m = none ∧ tOs T W (dOs C os) σ H1 fun vs H2 => spOf T (C.fn f) (x :: vs) H2 Q (WE W σ) := by
  obtain ⟨G, ρ, F, P, h⟩ := h
  simp only [dE] at h
  refine ⟨G, ρ, F, P, h.bind.imp (fun (x, o1) h v H1 ⟨G1, Fv, F1, E1, t1⟩ => ?_) fun _ _ _ z => z⟩
  simp only at h t1 E1
  cases er : x.rd (now ρ o1) with
  | none => simp only [er] at h; exact h.elim
  | some d =>
    obtain ⟨Fw, hw, Fd, rd⟩ := Tmp.read E1.pre t1 er
    cases d with
    | ins o c' fs ds =>
      simp only [er] at h
      cases ec : decide (c = c') with
      | false => simp only [ec] at h; exact h.elim
      | true =>
        simp only [ec] at h
        have ec := of_decide_eq_true ec
        subst ec
        obtain ⟨q, dx, vs, F', rfl, rl, len, nd, lt, ne, hq⟩ := rd
        have hq' : H1 q = some (.ins (T.ca c) dx ((fs.map T.fnm).zip vs)) := by
          cases o with
          | true => exact hq.1
          | false => exact lay_sub E1.pre.ex _ _ hq.1
        refine ⟨q, dx, _, rfl, hq', lookup_no fun f hf => no f (lt f hf), ?_⟩
        refine ⟨G1, now ρ o1, F1, E1.pre, (Post.bind h).imp (fun (as, o2) h us H2 ⟨G2, Fu, F2, E2, t2⟩ => ?_) (Xi.ev E1)⟩
        simp only at h
        cases fm : (x.firm || o2.isNone) with
        | false => simp only [fm] at h; exact h.elim
        | true =>
          simp only [fm] at h
          rw [now_now] at h
          have ta := E2.keepTmp t1 E1.apart fm
          rw [now_now] at ta t2
          exact runF_ok (E1.trans t1.trk E2) (show TmpL T G2 H2 _ σ (x :: as) (V.ref q :: us) (Fv ++ Fu) from ⟨V.ref q, us, Fv, Fu, rfl, rfl, ta, t2⟩) h
    | _ => simp only [er] at h; exact h.elim
theorem form_ok {es : List Expr} {env : PySem.Env} {pos : Pos} (h : es.all plainE = true) (l : es.length < 30) : methodCallForm (es.length + ([] : List Keyword).length) (backTo pos (starEach es env)) (backToKw pos (keywordEach [] env)) = true := by
  unfold methodCallForm
  rw [star_all h]
  show (true && decide (es.length + 0 + 0 < 30)) = true
  rw [Bool.true_and]
  exact decide_eq_true l
theorem mcall_ht {o : Expr} {m : Str} {es : List Expr} {env : PySem.Env} (hb : attributeBase o m env (eval o env) = eval o env) (pl : es.all plainE = true) (l : es.length < 30) (hl : (apos.endLine == pos.line) = true) :
    eval (.Call (.Attribute o m apos) es [] pos) env = (do
      let ov ← eval o env
      standAt apos.atName
      let (f, first) ← holding [ov] (getMethod ov m (plainOf o env))
      callWith pos f first (backTo pos (starEach es env)) (backToKw pos (keywordEach [] env))) := by
  rw [arm_eval_Call, hb]
  congr
  funext ov
  congr
  funext _
  exact mcall_line (form_ok pl l) hl
theorem e_meth {a : O} (co : ClsOk X T) (cf : CalleeM X T (C.fn f) c m) (tk : L2.Takes X W) (ho : PE X eo (tO T W (dO C a))) (ha : PA X (e :: es) (tOs T W (dOs C os))) (hb : attributeBase eo m X.env (eval eo X.env) = eval eo X.env) (pl : (e :: es).all plainE = true) (l : (e :: es).length < 30) (hl : (apos.endLine == pos.line) = true) :
    PE X (.Call (.Attribute eo m apos) (e :: es) [] pos) (tE T W (dE C (.meth f c a os))) := by
  obtain ⟨k, ad, fd, ps, F, hr, hm, hbd⟩ := cf.ok
  refine ⟨fun pins s σ H Q I h => ?_⟩
  refine PySem.W.methodCall_KW (pl := plainOf eo X.env) (thn (ho.run pins s σ H _ I (meth_den cf.no h)) fun u s1 ⟨x, H1, I1, rx, q, dx, fs, ex, ea, l, hq⟩ => ?_) (mcall_ht hb pl l hl)
  subst ex
  obtain rfl : u = Value.ref q := rx
  refine getmeth_ok I1 ea (co.cls c) hm l ?_
  rw [List.all_cons, Bool.and_eq_true] at pl
  refine PySem.W.callWith_K (first := [.ref q]) (h₀ := X.base) I.ok.mod.kin hm.kp (thn (ha.run pos pins s1 σ H1 _ I1 hq) fun us s2 ⟨vs, H2, I2, r, q2⟩ => ⟨I2.kIn, ?_⟩) (star_cons pl.1 es X.env) (star_any pl.2 X.env pos)
  exact run_fnSD (us := .ref q :: us) (vs := .ref q :: vs) (E := WE W) F hr hbd .nil (L2.passAt tk σ) I2 (.cons rfl r) (by rw [List.append_nil]; exact q2)
theorem e_meth0 {a : O} (co : ClsOk X T) (cf : CalleeM X T (C.fn f) c m) (tk : L2.Takes X W) (ho : PE X eo (tO T W (dO C a))) (hb : attributeBase eo m X.env (eval eo X.env) = eval eo X.env) (hl : (apos.endLine == pos.line) = true) :
    PE X (.Call (.Attribute eo m apos) [] [] pos) (tE T W (dE C (.meth f c a .nil))) := by
  obtain ⟨k, ad, fd, ps, F, hr, hm, hbd⟩ := cf.ok
  refine ⟨fun pins s σ H Q I h => ?_⟩
  refine PySem.W.methodCall_KW (pl := plainOf eo X.env) (thn (ho.run pins s σ H _ I (meth_den cf.no h)) fun u s1 ⟨x, H1, I1, rx, q, dx, fs, ex, ea, l, hq⟩ => ?_) (mcall_ht hb rfl (by decide) hl)
  subst ex
  obtain rfl : u = Value.ref q := rx
  refine getmeth_ok I1 ea (co.cls c) hm l ?_
  obtain ⟨G, ρ, F0, P, hq⟩ := hq
  simp only [dOs] at hq
  have hq := hq [] H1 ⟨G, [], F0, P.ev0, rfl, rfl⟩
  exact PySem.W.callWith_K0 (first := [.ref q]) I1.kIn hm.kp (run_fnSD (us := [.ref q]) (vs := [.ref q]) (E := WE W) F hr hbd .nil (L2.passAt tk σ) I1 (.cons rfl .nil) hq)
/-! ### new instances -/
/-- a new instance, at the slots -/
theorem run_mk {CX : CXT} {k : Nat} {C f : Addr} {fd : FuncData} {ps : List Str} {sp : Sp} {E : XK} {pins : List (Addr × Obj)} {σ : L2.St} {H : Hp} {s : Shared} {Q : VK} {us : List Value} {vs : List V} (M : Mk X.K C f) (F : FnOk X.prog X.w X.K X.mg X.base CX k f fd ps sp) (hr : Room (k + 1) X.A) (hb : Binds X.K fd ps [])
    (hx : ∀ H' s', L2.Inv X pins σ H' s' → ∀ e s'', CX X.stack H' s' E e s'' → X.xe e s'') (I : L2.Inv X pins σ H s) (r : Vals vs us)
    (h : ∀ x dx, H x = none → H dx = none → dx ≠ x → sp (.ref x :: vs) (upd (upd H dx (.own x)) x (.ins C dx [])) (fun v H2 => v = .non ∧ Q (.ref x) H2) E) :
    wpAny (model X.prog X.w) X.A (call (.ref C) us) (EP X pins σ Q) X.xe s := by
  have hq := h (s.heap.objs.size + 1) s.heap.objs.size (I.hok.fresh (Nat.le_succ _)) (I.hok.fresh (Nat.le_refl _)) (Nat.ne_of_lt (Nat.lt_succ_self _))
  have I2 := Inv.made (C := C) I
  have r2 : Vals (V.ref (s.heap.objs.size + 1) :: vs) (Value.ref (s.heap.objs.size + 1) :: us) := .cons rfl r
  have hl : ((Value.ref (s.heap.objs.size + 1) :: us) ++ []).length = ps.length := by
    rw [List.append_nil]
    have e := r2.length
    rw [F.len _ _ _ _ hq] at e
    exact e.symm
  have hbd := hb _ (Value.ref (s.heap.objs.size + 1) :: us) I2.kIn hl
  rw [List.append_nil] at hbd
  refine wpAny_call (make_map (f := f) I.kIn M.makes M.init (beq_iff_eq.mp M.fn) (codeAny_mono (F.run _ X.stack _ _ ⟨Value.ref (s.heap.objs.size + 1) :: us, []⟩ (Value.ref (s.heap.objs.size + 1) :: us) _ _ E (hr.make C us [])
    (I2.env0.make C us []) hbd r2 hq) fun r s' hq' => ?_))
  cases r with
  | error e => exact hx _ _ I2 e s' hq'
  | ok fl =>
    cases fl with
    | ret u =>
      obtain ⟨v, H', I3, rv, ev, q3⟩ := I2.after hq'
      subst ev
      exact ⟨rv, ⟨V.ref (s.heap.objs.size + 1), H', I3, rfl, q3⟩⟩
    | next => exact False.elim hq'
    | brk => exact False.elim hq'
    | cont => exact False.elim hq'
/-- what a new instance asks of its __init__ -/
theorem make_den {z : Bool} {σ : L2.St} {H : Hp} {Q : VK} (h : tE T W (dE C (.make f c z os)) σ H Q) :
    tOs T W (dOs C os) σ H fun vs H1 => ∀ x dx, H1 x = none → H1 dx = none → dx ≠ x → spOf T (C.fn f) (.ref x :: vs) (upd (upd H1 dx (.own x)) x (.ins (T.ca c) dx [])) (fun v H2 => v = .non ∧ Q (.ref x) H2) (WE W σ) := by
  obtain ⟨G, ρ, F, P, h⟩ := h
  simp only [dE] at h
  refine ⟨G, ρ, F, P, h.bind.imp (fun (as, o) h vs H1 ⟨G1, Fv, F1, E, t⟩ x dx hx hdx ne => ?_) fun _ _ _ z => z⟩
  simp only at h E t
  cases et : takeL as (now ρ o) with
  | none => simp only [et] at h; exact h.elim
  | some q =>
    obtain ⟨ds, bs, o1⟩ := q
    simp only [et] at h
    obtain ⟨Fd, F', s, re, rl, eo, ln⟩ := takeL_ok E.step.h E.env E.step.nd E.step.gn t.w et
    have S := E.step.trans s
    obtain ⟨n1, n2, n3⟩ := List.nodup_append.mp S.nd
    have hx1 : (upd H1 dx (.own x)) x = none := by rw [upd_ne (Ne.symm ne)]; exact hx
    -- the heap with the new instance
    have mk : Step G1 H1 [] G1 (upd (upd H1 dx (.own x)) x (.ins (T.ca c) dx [])) [x, dx] := by
      refine ⟨.refl _, (E.step.h.trans (.new hdx)).trans (.new hx1), fun a u e _ => Ext.new hx1 a u (Ext.new hdx a u e), fun a ha => ?_, fun _ _ q => .inl q, ?_, fun a ha => ?_⟩
      · rcases List.mem_cons.mp ha with e | ha
        · exact .inr (by rw [e]; exact hx)
        · exact .inr (by rw [List.mem_singleton.mp ha]; exact hdx)
      · exact List.nodup_cons.mpr ⟨fun z => ne (List.mem_singleton.mp z).symm, by simp⟩
      · rcases List.mem_cons.mp ha with e | ha
        · rw [e]; exact E.step.h.back hx
        · rw [List.mem_singleton.mp ha]; exact E.step.h.back hdx
    have rlk := RpL.trk _ _ _ rl
    have m1 := mk.more (R := Fd ++ F') (fun a ha => by
      rcases List.mem_append.mp ha with z | z
      · exact rlk a z
      · exact re.trk a z) (fun a ha => S.gn a ha) S.nd (fun _ _ z => nomatch z)
    rw [List.append_nil] at m1
    have S1 := S.trans m1
    have pm : ((Fd ++ F') ++ [x, dx]).Perm (F' ++ (x :: dx :: Fd)) := by
      have a1 : ((Fd ++ F') ++ [x, dx]).Perm ([x, dx] ++ (Fd ++ F')) := List.perm_append_comm
      refine a1.trans ?_
      rw [← List.append_assoc]
      exact List.perm_append_comm
    have S2 := S1.perm (.refl _) pm
    obtain ⟨k1, k2, k3⟩ := List.nodup_append.mp S2.nd
    have dj : ∀ a ∈ F', a ∉ x :: dx :: Fd := fun a ha hb => k3 a ha a hb rfl
    have keep1 : ∀ a, ∀ u, H1 a = some u → (upd (upd H1 dx (.own x)) x (.ins (T.ca c) dx [])) a = some u := fun a u e => Ext.new hx1 a u (Ext.new hdx a u e)
    have rI : Rp T G1 (upd (upd H1 dx (.own x)) x (.ins (T.ca c) dx [])) (.ins true c [] []) (.ref x) [x, dx] :=
      ⟨x, dx, [], [], rfl, ⟨rfl, rfl⟩, rfl, List.nodup_nil, (fun _ z => nomatch z), Ne.symm ne, by rw [upd_same]; rfl, by rw [upd_ne ne, upd_same], rfl⟩
    have rl1 : RpL T G1 (upd (upd H1 dx (.own x)) x (.ins (T.ca c) dx [])) (.ins true c [] [] :: ds) (.ref x :: vs) (x :: dx :: Fd) :=
      ⟨.ref x, vs, [x, dx], Fd, rfl, rfl, rI, RpL.mono (.refl _) ds vs Fd rl fun a _ u e => keep1 a u e⟩
    refine ⟨G1, _, _, m1.h, rl1, k2, fun a ha => S2.gn a (List.mem_append_right _ ha), ?_⟩
    cases ef : C.fn f (.ins true c [] [] :: ds) with
    | stuck => simp only [ef] at h; exact h.elim
    | exc c' y =>
      simp only [ef] at h ⊢
      intro H' dd G' w s' hd rx fx
      refine h H' dd ⟨G', F', ?_, ?_, w, hd, rx, fx⟩
      · have m := s'.more (R := F') (re.mono (.refl _) fun a _ u e => keep1 a u e).trk (fun a ha => S2.gn a (List.mem_append_left _ ha)) k1 dj
        rw [List.append_nil] at m
        exact S2.trans m
      · exact (re.mono (.refl _) fun a _ u e => keep1 a u e).mono s'.g fun a ha q e => s'.keep a q e (dj a ha)
    | ok d outs =>
      simp only [ef] at h ⊢
      cases d with
      | non =>
        cases outs with
        | nil => exact h.elim
        | cons y outs =>
          simp only at h
          intro v H' G' Fw Fo s' rd ro
          refine ⟨rd.non, ?_⟩
          have hFw : Fw = [] := rd.2
          subst hFw
          obtain ⟨v1, ws1, Fy, Fr, e1, rfl, ry, ro⟩ := ro
          cases e1
          have m := s'.more (R := F') (re.mono (.refl _) fun a _ u e => keep1 a u e).trk (fun a ha => S2.gn a (List.mem_append_left _ ha)) k1 dj
          have S3 := S2.trans m
          have re' : RpE T G' H' (now (now ρ o) o1) σ F' := (re.mono (.refl _) fun a _ u e => keep1 a u e).mono s'.g fun a ha q e => s'.keep a q e (dj a ha)
          rw [List.nil_append] at S3
          obtain ⟨q1, q2, q3⟩ := List.nodup_append.mp S3.nd
          obtain ⟨q4, q5, q6⟩ := List.nodup_append.mp q2
          have ndo : (Fr ++ F').Nodup := List.nodup_append.mpr ⟨q5, q1, fun a ha b hb e => q3 b hb a (List.mem_append_right _ ha) e.symm⟩
          obtain ⟨F3, j1, j2, re3⟩ := giveL_ok re' ndo ro ln
          have E4 : Ev T G H F ρ σ (given bs outs (now (now ρ o) o1) (orE o1 o)) G' H' Fy (if bs.any (·.isSome) = true then F3 else F') := by
            unfold given
            cases hb : bs.any (·.isSome) with
            | true =>
              simp only [if_true]
              refine ⟨S3.less (List.nodup_append.mpr ⟨q4, j1, fun a ha b hb => ?_⟩) fun a ha => ?_, re3, fun z => nomatch z⟩
              · rcases List.mem_append.mp (j2 b hb) with z | z
                · exact q6 a ha b z
                · exact fun e => q3 b z a (List.mem_append_left _ ha) e.symm
              · rcases List.mem_append.mp ha with z | z
                · exact List.mem_append_right _ (List.mem_append_left _ z)
                · rcases List.mem_append.mp (j2 a z) with z | z
                  · exact List.mem_append_right _ (List.mem_append_right _ z)
                  · exact List.mem_append_left _ z
            | false =>
              simp only [Bool.false_eq_true, if_false]
              refine ⟨S3.less (List.nodup_append.mpr ⟨q4, q1, fun a ha b hb e => q3 b hb a (List.mem_append_left _ ha) e.symm⟩) fun a ha => ?_, by rw [← now_now]; exact re', fun z => ?_⟩
              · rcases List.mem_append.mp ha with z | z
                · exact List.mem_append_right _ (List.mem_append_left _ z)
                · exact List.mem_append_left _ z
              · have e1 : o1 = none := by cases o1 with
                  | none => rfl
                  | some r => cases z
                subst e1
                have e2 : o = none := z
                obtain ⟨xh, ef'⟩ := E.calm e2
                have eF := eo rfl
                refine ⟨fun a q e => s'.keep a q (keep1 a q (xh a q e)) fun hd => ?_, eF.trans ef'⟩
                have nF : a ∉ F' := fun hb => dj a hb hd
                have a1 := xh a q e
                rcases List.mem_cons.mp hd with z | hd
                · rw [z, hx] at a1; cases a1
                rcases List.mem_cons.mp hd with z | hd
                · rw [z, hdx] at a1; cases a1
                rcases s.sub a (List.mem_append_left _ hd) with z | z
                · rcases List.mem_append.mp z with z | z
                  · rcases E.step.sub a (List.mem_append_left _ z) with z | z
                    · exact nF (by rw [eF, ef']; exact z)
                    · rw [e] at z; cases z
                  · exact nF (by rw [eF]; exact z)
                · rw [a1] at z; cases z
          cases z with
          | false => exact h (.ref x) H' ⟨G', Fy, _, E4, ry⟩
          | true =>
            simp only at h
            cases hz : fzable y with
            | false => simp only [hz] at h; exact h.elim
            | true =>
              simp only [hz] at h
              refine h (.ref x) H' ⟨_, [], _, E4.freeze (Fw := Fy) fun _ z => z, ?_⟩
              exact Rp.fz (lay_ext E4.step.h) y (.ref x) Fy hz ry lay_get
      | _ => exact h.elim
theorem e_make {z : Bool} (cf : Maker X T (C.fn f) c x) (tk : L2.Takes X W) (hg : Gl X x) (hdb : (x == ("__debug__" : Str)) = false) (ha : PA X (e :: es) (tOs T W (dOs C os))) (pl : (e :: es).all plainE = true) : PE X (.Call (.Name x p) (e :: es) [] pos) (tE T W (dE C (.make f c z os))) := by
  obtain ⟨k, ad, fd, ps, F, hr, hm, M, hb⟩ := cf.ok
  rw [List.all_cons, Bool.and_eq_true] at pl
  refine ⟨fun pins s σ H Q I h => ?_⟩
  refine wpAny_Call_Name_kw (ld_glob I hg hm ?_ hdb)
  refine PySem.W.callWith_K (h₀ := X.base) I.ok.mod.kin M.kp (thn (ha.run pos pins s σ H _ I (make_den h)) fun us s1 ⟨vs, H1, I1, r, q⟩ => ⟨I1.kIn, ?_⟩) (star_cons pl.1 es X.env) (star_any pl.2 X.env pos)
  exact run_mk M F hr hb (fun H' s' I' e s'' c => L2.passAt tk σ pins H' s' e s'' I' c) I1 r q
end
end Mp
/-! Changes in place. -/
namespace Mp
open PySem L2

section
variable {T : Tab} {W : WX} {G G' H H' : Hp} {ρ : Env} {σ : L2.St} {F : List Addr} {Q : VK}
theorem changeX {i : Nat} {π : List Nat} {c : D} {v : V} {Fx : List Addr} (re : RpE T G H ρ σ F) (nd : (Fx ++ F).Nodup) (gn : ∀ a ∈ Fx ++ F, G a = none) (e : getS ρ i π = some c) (va : VAt T H ρ σ i π v) :
    ∃ F1, Rp T G H c v F1 ∧ (Fx ++ F1).Nodup ∧ (∀ a ∈ Fx ++ F1, G a = none) ∧ ∀ {G' H' : Hp} {c' : D} {F1' Fv : List Addr}, Step G H (Fx ++ F1) G' H' (Fv ++ F1') → Rp T G' H' c' v F1' → ∃ F', Step G H (Fx ++ F) G' H' (Fv ++ F') ∧ RpE T G' H' (setS ρ i π c') σ F' := by
  obtain ⟨F1, R, pm, r, put⟩ := re.place e va
  have pmx : (Fx ++ F).Perm (R ++ (Fx ++ F1)) := by
    refine (pm.append_left Fx).trans ?_
    rw [← List.append_assoc]
    exact List.perm_append_comm
  have nd2 := pmx.nodup_iff.mp nd
  obtain ⟨n1, n2, n3⟩ := List.nodup_append.mp nd2
  have trk := re.trk
  have memR : ∀ a ∈ R, a ∈ F := fun a ha => pm.mem_iff.mpr (List.mem_append_right _ ha)
  have dj : ∀ a ∈ R, a ∉ Fx ++ F1 := fun a ha hb => n3 a ha a hb rfl
  refine ⟨F1, r, n2, fun a ha => gn a (pmx.mem_iff.mpr (List.mem_append_right _ ha)), fun {G' H' c' F1' Fv} s rc => ?_⟩
  obtain ⟨F', pm', re'⟩ := put s.g (fun a ha o q => s.keep a o q (dj a ha)) rc
  refine ⟨F', ?_, re'⟩
  refine (s.more (R := R) (fun a ha => trk a (memR a ha)) (fun a ha => gn a (List.mem_append_right _ (memR a ha))) n1 dj).perm pmx.symm ?_
  refine List.perm_append_comm.trans ?_
  rw [List.append_assoc]
  exact (pm'.symm).append_left Fv
/-- an owned object is written -/
theorem Step.write {p : Addr} {o0 o : HO} {F F2 : List Addr} (ex : Ext G H) (gn : ∀ a ∈ F, G a = none) (hp : H p = some o0) (hm : p ∈ F) (nd : F2.Nodup) (sub : ∀ a ∈ F2, a ∈ F) : Step G H F G (upd H p o) F2 :=
  ⟨.refl _, fun a u q => by
    have : a ≠ p := fun e => by rw [e, gn p hm] at q; cases q
    rw [upd_ne this]; exact ex a u q, fun a u q hn => by
    have : a ≠ p := fun e => hn (by rw [e]; exact hm)
    rw [upd_ne this]; exact q, fun a ha => .inl (sub a ha), fun _ _ q => .inl q, nd, fun a ha => gn a (sub a ha)⟩
theorem Rp.upd {d : D} {v : V} {F1 : List Addr} {p : Addr} {o : HO} (r : Rp T G H d v F1) (h : p ∉ F1) : Rp T G (upd H p o) d v F1 :=
  Rp.mono (.refl _) d v F1 r fun a ha u q => by rw [upd_ne (fun e => h (by rw [← e]; exact ha))]; exact q
theorem RpL.upd {d : List D} {v : List V} {F1 : List Addr} {p : Addr} {o : HO} (r : RpL T G H d v F1) (h : p ∉ F1) : RpL T G (upd H p o) d v F1 :=
  RpL.mono (.refl _) d v F1 r fun a ha u q => by rw [upd_ne (fun e => h (by rw [← e]; exact ha))]; exact q
theorem Ev.then {o : Option Env} {G1 H1 : Hp} {Fx F1 Fv F' : List Addr} {ρ' : Env} (E : Ev T G H F ρ σ o G1 H1 Fx F1) (s : Step G1 H1 (Fx ++ F1) G' H' (Fv ++ F')) (re : RpE T G' H' ρ' σ F') : Ev T G H F ρ σ (some ρ') G' H' Fv F' :=
  ⟨E.step.trans s, re, fun z => nomatch z⟩
/-- a method's rule serves its den -/
def BmOk (T : Tab) (m : Bm) (r : V → List V → Hp → VK → Prop) : Prop := ∀ (G H : Hp) (d d' y : D) (x : V) (xs : List D) (us : List V) (Fa F1 : List Addr) (Q : VK), Ext G H → Rp T G H d x F1 → RpL T G H xs us Fa → bmD m d xs = some (y, d') → (Fa ++ F1).Nodup → (∀ a ∈ Fa ++ F1, G a = none) →
  (∀ v G' H' Fv F1', Step G H (Fa ++ F1) G' H' (Fv ++ F1') → Rp T G' H' y v Fv → Rp T G' H' d' x F1' → Q v H') → r x us H Q
theorem bmTy_rp {d : D} {t : Bool} {v : V} {F1 : List Addr} (e : bmTy d = some t) (r : Rp T G H d v F1) : (t = true ∧ ∃ p vs, v = .ref p ∧ H p = some (.lst vs)) ∨ (t = false ∧ ∃ p kvs, v = .ref p ∧ H p = some (.dK kvs)) := by
  unfold bmTy at e
  split at e
  · cases e
    obtain ⟨p, vs, F', ev, hp, _⟩ := r
    exact .inl ⟨rfl, p, vs, ev, hp⟩
  · cases e
    obtain ⟨_, p, kvs, F', ev, _, _, _, _, hp, _⟩ := r
    exact .inr ⟨rfl, p, kvs, ev, hp⟩
  · cases e
/-- a method's den -/
theorem bm_den {C : Cfg} {m : Bm} {p : P} {es : Es} {r : V → List V → Hp → VK → Prop} (ok : BmOk T m r) (h : tE T W (dE C (.bm m p es)) σ H Q) :
    tO T W (dP C p) σ H fun x H1 => ((bmFor m = true ∧ ∃ q vs, x = .ref q ∧ H1 q = some (.lst vs)) ∨ (bmFor m = false ∧ ∃ q kvs, x = .ref q ∧ H1 q = some (.dK kvs))) ∧ tEs T W (dEs C es) σ H1 fun us H2 => r x us H2 Q := by
  obtain ⟨G, ρ, F, P, h⟩ := h
  simp only [dE] at h
  refine ⟨G, ρ, F, P, h.bind.imp (fun (a, o1) h v H1 ⟨G1, Fv, F1, E1, t1⟩ => ?_) fun _ _ _ z => z⟩
  simp only at h t1 E1
  cases a with
  | tm _ => exact h.elim
  | pl i π =>
    simp only at h
    obtain ⟨rfl, va⟩ := t1
    cases eg : getS (now ρ o1) i π with
    | none => simp only [eg, Option.bind_none] at h; exact h.elim
    | some d0 =>
      simp only [eg, Option.bind_some] at h
      cases et : bmTy d0 with
      | none => simp only [et] at h; exact h.elim
      | some t =>
        simp only [et] at h
        cases ed : decide (t = bmFor m) with
        | false => simp only [ed] at h; exact h.elim
        | true =>
          simp only [ed] at h
          have ed := of_decide_eq_true ed
          obtain ⟨F0, r0, _⟩ := E1.pre.change eg va
          refine ⟨?_, G1, now ρ o1, F1, E1.pre, (Post.bind h).imp (fun (xs, o2) h us H2 ⟨G2, Fa, F2, E2, t2⟩ => ?_) (Xi.ev E1)⟩
          · rw [← ed]; exact bmTy_rp et r0
          simp only at h t2 E2
          cases fm : ((OV.pl i π).firm || o2.isNone) with
          | false => simp only [fm] at h; exact h.elim
          | true =>
            simp only [fm] at h
            obtain ⟨_, va2⟩ := E2.keepTmp (a := .pl i π) (Fv := []) ⟨rfl, va⟩ (fun _ z => nomatch z) fm
            cases eg2 : getS (now (now ρ o1) o2) i π with
            | none => simp only [eg2] at h; exact h.elim
            | some d =>
              simp only [eg2] at h
              cases eb : bmD m d xs with
              | none => simp only [eb] at h; exact h.elim
              | some q =>
                obtain ⟨y, d'⟩ := q
                simp only [eb] at h
                have E := E1.trans (fun _ z => nomatch z) E2
                rw [List.nil_append] at E
                obtain ⟨F3, rd, nd3, gn3, put⟩ := changeX E2.env E.step.nd E.step.gn eg2 va2
                refine ok G2 H2 d d' y v xs us Fa F3 Q E2.step.h rd t2 eb nd3 gn3 fun w G' H' Fw F1' s ry rd' => ?_
                obtain ⟨F', s', re'⟩ := put s rd'
                exact h w H' ⟨G', Fw, F', E.then s' re', ry⟩
end
/-! ### the methods -/
section
variable {T : Tab}
theorem bm_append : BmOk T .append rAppend := by
  intro G H d d' y x xs us Fa F1 Q ex rd ra e nd gn k
  unfold bmD at e
  split at e <;> first | contradiction | cases e | skip
  · split at e
    · rename_i hl
      cases e
      obtain ⟨l, vs, F', rfl, hp, rl, ef⟩ := rd
      obtain ⟨u, ws, Fu, Fw, rfl, rfl, ru, ⟨rfl, rfl⟩⟩ := ra
      rw [List.append_nil] at nd gn k
      obtain ⟨n1, n2, n3⟩ := List.nodup_append.mp nd
      have hlF : l ∈ F1 := by rw [ef]; exact List.mem_cons_self
      have hnF : l ∉ F' := by rw [ef] at n2; exact (List.nodup_cons.mp n2).1
      have hnU : l ∉ Fu := fun z => n3 l z l hlF rfl
      refine ⟨l, vs, u, rfl, rfl, hp, by rw [rl.length, ← line_eq]; exact of_decide_eq_true hl, ?_⟩
      refine k .non G _ [] (l :: (F' ++ Fu)) (Step.write ex gn hp (List.mem_append_right _ hlF) ?_ ?_) ⟨rfl, rfl⟩ ⟨l, vs ++ [u], F' ++ Fu, rfl, upd_same, ?_, rfl⟩
      · rw [List.nil_append]
        rw [ef] at n2 n3
        refine List.nodup_cons.mpr ⟨fun z => (List.mem_append.mp z).elim hnF hnU, List.nodup_append.mpr ⟨(List.nodup_cons.mp n2).2, n1, fun a ha b hb e => n3 b hb a (List.mem_cons_of_mem _ ha) e.symm⟩⟩
      · intro a ha
        rw [List.nil_append] at ha
        rcases List.mem_cons.mp ha with z | z
        · rw [z]; exact List.mem_append_right _ hlF
        · rcases List.mem_append.mp z with z | z
          · exact List.mem_append_right _ (by rw [ef]; exact List.mem_cons_of_mem _ z)
          · exact List.mem_append_left _ z
      · exact RpL.append (rl.upd hnF) (.one (ru.upd hnU))
    · cases e
theorem RpL.last {G H : Hp} : ∀ {xs : List D} {vs : List V} {F : List Addr} {c : D}, RpL T G H xs vs F → xs[xs.length - 1]? = some c → ∃ v F1 F2, vs[vs.length - 1]? = some v ∧ F = F1 ++ F2 ∧ Rp T G H c v F2 ∧ RpL T G H xs.dropLast vs.dropLast F1
  | [], vs, F, c, h, e => by simp at e
  | [x], vs, F, c, h, e => by
    obtain ⟨v, ws, F1, F2, rfl, rfl, r, ⟨rfl, rfl⟩⟩ := h
    simp at e
    subst e
    exact ⟨v, [], F1, rfl, by simp, r, rfl, rfl⟩
  | x :: y :: xs, vs, F, c, h, e => by
    obtain ⟨v, ws, F1, F2, rfl, rfl, r, h⟩ := h
    have e' : (y :: xs)[(y :: xs).length - 1]? = some c := by simpa using e
    obtain ⟨w, A, B, ew, rfl, rc, rl⟩ := RpL.last h e'
    have hl := h.length
    refine ⟨w, F1 ++ A, B, ?_, by rw [List.append_assoc], rc, ?_⟩
    · cases ws with
      | nil => simp at hl
      | cons u ws => simpa using ew
    · cases ws with
      | nil => simp at hl
      | cons u ws => exact ⟨v, _, F1, A, rfl, rfl, r, rl⟩
theorem bm_pop0 : BmOk T .pop0 rPop := by
  intro G H d d' y x xs us Fa F1 Q ex rd ra e nd gn k
  unfold bmD at e
  split at e <;> first | contradiction | cases e | skip
  · split at e
    · rename_i c hc
      cases e
      obtain ⟨l, vs, F', rfl, hp, rl, ef⟩ := rd
      obtain ⟨rfl, rfl⟩ := ra
      rw [List.nil_append] at nd gn k
      obtain ⟨v, A, B, ev, rfl, rc, rl2⟩ := rl.last hc
      subst ef
      have hn := List.nodup_cons.mp nd
      obtain ⟨m1, m2, m3⟩ := List.nodup_append.mp hn.2
      refine ⟨l, vs, v, rfl, rfl, hp, ev, ?_⟩
      refine k v G _ B (l :: A) (Step.write ex gn hp List.mem_cons_self ?_ ?_) (rc.upd fun z => hn.1 (List.mem_append_right _ z)) ⟨l, vs.dropLast, A, rfl, upd_same, rl2.upd fun z => hn.1 (List.mem_append_left _ z), rfl⟩
      · refine List.nodup_append.mpr ⟨m2, List.nodup_cons.mpr ⟨fun z => hn.1 (List.mem_append_left _ z), m1⟩, fun a ha b hb e => ?_⟩
        rcases List.mem_cons.mp hb with z | z
        · exact hn.1 (by rw [← z, ← e]; exact List.mem_append_right _ ha)
        · exact m3 b z a ha e.symm
      · intro a ha
        rcases List.mem_append.mp ha with z | z
        · exact List.mem_cons_of_mem _ (List.mem_append_right _ z)
        · rcases List.mem_cons.mp z with z | z
          · rw [z]; exact List.mem_cons_self
          · exact List.mem_cons_of_mem _ (List.mem_append_left _ z)
    · cases e
theorem RpL.rev {G H : Hp} : ∀ {xs : List D} {vs : List V} {F : List Addr}, RpL T G H xs vs F → ∃ F', F'.Perm F ∧ RpL T G H xs.reverse vs.reverse F'
  | [], _, _, h => by
    obtain ⟨rfl, rfl⟩ := h
    exact ⟨[], .refl _, rfl, rfl⟩
  | x :: xs, _, _, h => by
    obtain ⟨v, ws, F1, F2, rfl, rfl, r, h⟩ := h
    obtain ⟨F', pm, h'⟩ := RpL.rev h
    refine ⟨F' ++ F1, (pm.append_right F1).trans List.perm_append_comm, ?_⟩
    rw [List.reverse_cons, List.reverse_cons]
    exact RpL.append h' (.one r)
theorem bm_reverse : BmOk T .reverse rReverse := by
  intro G H d d' y x xs us Fa F1 Q ex rd ra e nd gn k
  unfold bmD at e
  split at e <;> first | contradiction | cases e | skip
  · obtain ⟨l, vs, F', rfl, hp, rl, ef⟩ := rd
    obtain ⟨rfl, rfl⟩ := ra
    rw [List.nil_append] at nd gn k
    subst ef
    have hn := List.nodup_cons.mp nd
    obtain ⟨F2, pm, rl2⟩ := RpL.rev rl
    have hn2 : l ∉ F2 := fun z => hn.1 (pm.mem_iff.mp z)
    refine ⟨l, vs, rfl, rfl, hp, ?_⟩
    refine k .non G _ [] (l :: F2) (Step.write ex gn hp List.mem_cons_self ?_ ?_) ⟨rfl, rfl⟩ ⟨l, vs.reverse, F2, rfl, upd_same, rl2.upd hn2, rfl⟩
    · exact List.nodup_cons.mpr ⟨hn2, pm.nodup_iff.mpr hn.2⟩
    · intro a ha
      rcases List.mem_cons.mp ha with z | z
      · rw [z]; exact List.mem_cons_self
      · exact List.mem_cons_of_mem _ (pm.mem_iff.mp z)
theorem bm_clear : BmOk T .clear rClear := by
  intro G H d d' y x xs us Fa F1 Q ex rd ra e nd gn k
  unfold bmD at e
  split at e <;> first | contradiction | cases e | skip
  · obtain ⟨l, vs, F', rfl, hp, rl, ef⟩ := rd
    obtain ⟨rfl, rfl⟩ := ra
    rw [List.nil_append] at nd gn k
    subst ef
    refine ⟨l, vs, rfl, rfl, hp, ?_⟩
    refine k .non G _ [] [l] (Step.write ex gn hp List.mem_cons_self (by simp) ?_) ⟨rfl, rfl⟩ ⟨l, [], [], rfl, upd_same, ⟨rfl, rfl⟩, rfl⟩
    intro a ha
    have ha : a ∈ [l] := ha
    rw [List.mem_singleton.mp ha]; exact List.mem_cons_self
end
section
variable {X : Cx} {T : Tab} {W : WX} {C : Cfg} {m : Bm} {p : P} {es : Es} {eo e : Expr} {ees : List Expr} {name : Str} {id : String} {apos pos : Pos} {r : V → List V → Hp → VK → Prop}
theorem e_bmL (ok : BmOk T m r) (hf : bmFor m = true) (slot : Slot "list" name id) (hty : typeOf (.builtin id) = pure (.type "method_descriptor")) (hm : MtR X id r) (ho : PE X eo (tO T W (dP C p))) (ha : PA X (e :: ees) (tEs T W (dEs C es)))
    (hb : attributeBase eo name X.env (eval eo X.env) = eval eo X.env) (pl : (e :: ees).all plainE = true) (l : (e :: ees).length < 30) (hl : (apos.endLine == pos.line) = true) : PE X (.Call (.Attribute eo name apos) (e :: ees) [] pos) (tE T W (dE C (.bm m p es))) := by
  have pl' := pl
  rw [List.all_cons, Bool.and_eq_true] at pl'
  refine (pe_bm PySem.F.plainAttrs_list slot hty hm ho ha hb (few_ok pl l) hl (star_cons pl'.1 ees X.env) (star_any pl'.2 X.env pos)).weak fun σ H Q h => ?_
  refine (bm_den ok h).mono fun v H1 ⟨z, q⟩ => ⟨?_, q⟩
  rcases z with ⟨_, q, vs, rfl, hq⟩ | ⟨z, _⟩
  · exact .inl ⟨rfl, vs, .inl (.inl hq)⟩
  · rw [hf] at z; cases z
theorem e_bmL0 (ok : BmOk T m r) (hf : bmFor m = true) (slot : Slot "list" name id) (hty : typeOf (.builtin id) = pure (.type "method_descriptor")) (hm : MtR X id r) (ho : PE X eo (tO T W (dP C p)))
    (hb : attributeBase eo name X.env (eval eo X.env) = eval eo X.env) (hl : (apos.endLine == pos.line) = true) : PE X (.Call (.Attribute eo name apos) [] [] pos) (tE T W (dE C (.bm m p .nil))) := by
  refine (pe_bm0 PySem.F.plainAttrs_list slot hty hm ho hb hl).weak fun σ H Q h => ?_
  refine (bm_den ok h).mono fun v H1 ⟨z, q⟩ => ⟨?_, ?_⟩
  · rcases z with ⟨_, q, vs, rfl, hq⟩ | ⟨z, _⟩
    · exact .inl ⟨rfl, vs, .inl (.inl hq)⟩
    · rw [hf] at z; cases z
  · obtain ⟨G, ρ, F, P, q⟩ := q
    simp only [dEs] at q
    exact q [] H1 ⟨G, [], F, P.ev0, rfl, rfl⟩
end
end Mp
/-! Statements: what they leave; names, returns, branches. -/
namespace Mp
open PySem L2

/-- the kept slots -/
def Kp (pr : Nat → Bool) (σ σ' : L2.St) : Prop := σ'.length = σ.length ∧ ∀ i, pr i = true → σ'[i]? = σ[i]?
theorem Kp.refl {pr : Nat → Bool} {σ : L2.St} : Kp pr σ σ := ⟨rfl, fun _ _ => rfl⟩
theorem Kp.trans {pr : Nat → Bool} {a b c : L2.St} (x : Kp pr a b) (y : Kp pr b c) : Kp pr a c := ⟨y.1.trans x.1, fun i h => (y.2 i h).trans (x.2 i h)⟩
theorem Kp.set {pr : Nat → Bool} {σ : L2.St} {i : Nat} {s : Option V} (h : pr i = false) : Kp pr σ (σ.set i s) := ⟨by simp, fun j hj => by
  rw [List.getElem?_set_ne]
  intro e
  rw [e, hj] at h
  cases h⟩
section
variable (T : Tab) (W : WX) (pr : Nat → Bool)
def OkS (G H : Hp) (F : List Addr) (σ : L2.St) (ρ' : Env) (σ' : L2.St) (H' : Hp) : Prop := ∃ G' F', Step G H F G' H' F' ∧ RpE T G' H' ρ' σ' F' ∧ Kp pr σ σ'
def OkR (G H : Hp) (F : List Addr) (σ : L2.St) (d : D) (ρ' : Env) (v : V) (σ' : L2.St) (H' : Hp) : Prop := ∃ G' Fv F', Step G H F G' H' (Fv ++ F') ∧ Rp T G' H' d v Fv ∧ RpE T G' H' ρ' σ' F' ∧ Kp pr σ σ'
def PostS (DD : Ends) (G H : Hp) (F : List Addr) (σ : L2.St) : SR → Prop
  | .nx ρ' => ∀ σ' H', OkS T pr G H F σ ρ' σ' H' → DD.nx σ' H'
  | .bk ρ' => ∀ σ' H', OkS T pr G H F σ ρ' σ' H' → DD.bk σ' H'
  | .ct ρ' => ∀ σ' H', OkS T pr G H F σ ρ' σ' H' → DD.ct σ' H'
  | .ret d ρ' => ∀ v σ' H', OkR T pr G H F σ d ρ' v σ' H' → DD.rt v H'
  | .exc c x ρ' => ∀ σ', Kp pr σ σ' → Xi T W G H F σ' c x ρ'
  | .stuck => False
def tS (den : Env → SR) : TS := fun DD σ H => ∃ G ρ F, Pre T G H ρ σ F ∧ PostS T W pr DD G H F σ (den ρ)
end
section
variable {T : Tab} {W : WX} {pr : Nat → Bool} {G G' H H' : Hp} {ρ : Env} {σ σ' : L2.St} {F F' : List Addr} {DD : Ends}
theorem Pre.okS (P : Pre T G H ρ σ F) : OkS T pr G H F σ ρ σ H := ⟨G, F, P.step0, P.env, .refl⟩
theorem OkS.after {ρ' : Env} {σ2 : L2.St} {H2 : Hp} (s : Step G H F G' H' F') (k : Kp pr σ σ') (h : OkS T pr G' H' F' σ' ρ' σ2 H2) : OkS T pr G H F σ ρ' σ2 H2 := by
  obtain ⟨G2, F2, s2, r, k2⟩ := h
  exact ⟨G2, F2, s.trans s2, r, k.trans k2⟩
theorem PostS.mono {r : SR} (s : Step G H F G' H' F') (k : Kp pr σ σ') (h : PostS T W pr DD G H F σ r) : PostS T W pr DD G' H' F' σ' r := by
  cases r with
  | nx ρ' => exact fun σ2 H2 q => h σ2 H2 (q.after s k)
  | bk ρ' => exact fun σ2 H2 q => h σ2 H2 (q.after s k)
  | ct ρ' => exact fun σ2 H2 q => h σ2 H2 (q.after s k)
  | ret d ρ' =>
    intro v σ2 H2 ⟨G2, Fv, F2, s2, r, re, k2⟩
    exact h v σ2 H2 ⟨G2, Fv, F2, s.trans s2, r, re, k.trans k2⟩
  | exc c x ρ' =>
    intro σ2 k2
    exact Xi.mono s c x ρ' (h σ2 (k.trans k2))
  | stuck => exact h
/-- an expression within a statement -/
theorem PostS.then {α : Type} {r : R α} {f : α → SR} (h : PostS T W pr DD G H F σ (r.then f)) : Post r (fun a => PostS T W pr DD G H F σ (f a)) (Xi T W G H F σ) := by
  cases r with
  | ok a => exact h
  | exc c x ρ => exact h σ .refl
  | stuck => exact h
theorem Ev.okS {o : Option Env} {Fv F1 : List Addr} {G1 H1 : Hp} (E : Ev T G H F ρ σ o G1 H1 Fv F1) : OkS T pr G H F σ (now ρ o) σ H1 := ⟨G1, F1, E.nil.step, E.env, .refl⟩
/-! ### targets -/
def tG (T : Tab) (pr : Nat → Bool) (tg : Tg) : TG := fun v σ H Q => ∃ G ρ F d Fv ρ', Ext G H ∧ RpE T G H ρ σ F ∧ (Fv ++ F).Nodup ∧ Rp T G H d v Fv ∧ bindT tg d ρ = some ρ' ∧ ∀ σ' F', RpE T G H ρ' σ' F' → F'.Nodup → (∀ a ∈ F', a ∈ Fv ++ F) → Kp pr σ σ' → Q σ' H
def tGs (T : Tab) (pr : Nat → Bool) (ts : Tgs) : TGs := fun vs σ H Q => ∃ G ρ F ds Fv ρ', Ext G H ∧ RpE T G H ρ σ F ∧ (Fv ++ F).Nodup ∧ RpL T G H ds vs Fv ∧ bindT.bindTs ts ds ρ = some ρ' ∧ ∀ σ' F', RpE T G H ρ' σ' F' → F'.Nodup → (∀ a ∈ F', a ∈ Fv ++ F) → Kp pr σ σ' → Q σ' H
theorem RpE.store {i : Nat} {d : D} {v : V} {F1 : List Addr} (re : RpE T G H ρ σ F) (nd : (F1 ++ F).Nodup) (r : Rp T G H d v F1) : ∃ F', F'.Nodup ∧ (∀ a ∈ F', a ∈ F1 ++ F) ∧ RpE T G H (ρ.set i d) (σ.set i (some v)) F' := by
  obtain ⟨n1, n2, n3⟩ := List.nodup_append.mp nd
  by_cases hi : i < ρ.length
  · obtain ⟨s, A, R, es, pm, rs, put⟩ := re.focus hi
    obtain ⟨F', pm', re'⟩ := put (.refl _) (fun a ha o q => q) (.inr ⟨v, rfl, r⟩)
    have nR := (List.nodup_append.mp (pm.nodup_iff.mp n2)).2.1
    have sub : ∀ a ∈ R, a ∈ F := fun a ha => pm.mem_iff.mpr (List.mem_append_right _ ha)
    refine ⟨F', pm'.nodup_iff.mpr (List.nodup_append.mpr ⟨n1, nR, fun a ha b hb => n3 a ha b (sub b hb)⟩), fun a ha => ?_, re'⟩
    rcases List.mem_append.mp (pm'.mem_iff.mp ha) with z | z
    · exact List.mem_append_left _ z
    · exact List.mem_append_right _ (sub a z)
  · rw [List.set_eq_of_length_le (by omega), List.set_eq_of_length_le (by rw [re.length]; omega)]
    exact ⟨F, n2, fun a ha => List.mem_append_right _ ha, re⟩
end
theorem asg_each : ∀ {es : List Expr} (h : es.all plainE = true) (env : PySem.Env), (assignEach es env).length = es.length ∧ (assignEach es env).findIdx? (·.1) = none
  | [], _, _ => ⟨rfl, rfl⟩
  | e :: es, h, env => by
    rw [List.all_cons, Bool.and_eq_true] at h
    obtain ⟨h1, h2⟩ := asg_each h.2 env
    have e1 : assignEach (e :: es) env = (false, assign e env) :: assignEach es env := by
      have h1 := h.1
      cases e <;> first | rfl | cases h1
    rw [e1]
    refine ⟨by simp only [List.length_cons, h1], ?_⟩
    rw [List.findIdx?_cons]
    simp only [Bool.false_eq_true, if_false, h2]
    rfl
theorem asg_cons {e : Expr} (h : plainE e = true) (es : List Expr) (env : PySem.Env) : (assignEach (e :: es) env).map (·.2) = assign e env :: (assignEach es env).map (·.2) := by
  cases e <;> first | rfl | cases h
section
variable {X : Cx} {T : Tab} {W : WX} {C : Cfg} {pr : Nat → Bool} {tg et : Expr} {ets : List Expr} {pos : Pos}
theorem g_var {i : Nat} (h : PG X et (gName i)) (hp : pr i = false) : PG X et (tG T pr (.var i)) := by
  refine ⟨fun pins s σ H v u Q I r ⟨G, ρ, F, d, Fv, ρ', ex, re, nd, rd, e, k⟩ => h.run pins s σ H v u Q I r ?_⟩
  unfold bindT at e
  cases e
  obtain ⟨F', n, sub, re'⟩ := RpE.store (i := i) re nd rd
  exact k _ F' re' n sub (.set hp)
theorem gs_nil : PGs X [] (tGs T pr .nil) := by
  refine ⟨fun pins s σ H vs us Q I r ⟨G, ρ, F, ds, Fv, ρ', ex, re, nd, rl, e, k⟩ => pgs_nil.run pins s σ H vs us Q I r ?_⟩
  cases ds with
  | nil =>
    cases e
    obtain ⟨rfl, rfl⟩ := rl
    exact ⟨rfl, k σ F re nd (fun a ha => ha) .refl⟩
  | cons d ds => cases e
theorem gs_cons {t : Tg} {ts : Tgs} (h1 : PG X et (tG T pr t)) (h2 : PGs X ets (tGs T pr ts)) (pl : plainE et = true) : PGs X (et :: ets) (tGs T pr (.cons t ts)) := by
  refine ⟨fun pins s σ H vs us Q I r ⟨G, ρ, F, ds, Fv, ρ', ex, re, nd, rl, e, k⟩ => (pgs_cons h1 h2 (asg_cons pl ets X.env)).run pins s σ H vs us Q I r ?_⟩
  cases ds with
  | nil => cases e
  | cons d ds =>
    have e : (match bindT t d ρ with | some ρ' => bindT.bindTs ts ds ρ' | none => none) = some ρ' := e
    cases e1 : bindT t d ρ with
    | none => rw [e1] at e; cases e
    | some ρ1 =>
      rw [e1] at e
      obtain ⟨v, ws, F1, F2, rfl, rfl, rd, rl⟩ := rl
      rw [List.append_assoc] at nd
      obtain ⟨n1, n2, n3⟩ := List.nodup_append.mp nd
      obtain ⟨m1, m2, m3⟩ := List.nodup_append.mp n2
      refine ⟨v, ws, rfl, G, ρ, F, d, F1, ρ1, ex, re, List.nodup_append.mpr ⟨n1, m2, fun a ha b hb => n3 a ha b (List.mem_append_right _ hb)⟩, rd, e1, fun σ1 F3 re1 nd1 sub1 k1 => ?_⟩
      refine ⟨G, ρ1, F3, ds, F2, ρ', ex, re1, List.nodup_append.mpr ⟨m1, nd1, fun a ha b hb => ?_⟩, rl, e, fun σ2 F4 re2 nd2 sub2 k2 => ?_⟩
      · rcases List.mem_append.mp (sub1 b hb) with z | z
        · exact fun e => n3 b z a (List.mem_append_left _ ha) e.symm
        · exact m3 a ha b z
      · refine k σ2 F4 re2 nd2 (fun a ha => ?_) (k1.trans k2)
        rw [List.append_assoc]
        rcases List.mem_append.mp (sub2 a ha) with z | z
        · exact List.mem_append_right _ (List.mem_append_left _ z)
        · rcases List.mem_append.mp (sub1 a z) with z | z
          · exact List.mem_append_left _ z
          · exact List.mem_append_right _ (List.mem_append_right _ z)
theorem bindTs_length : ∀ {ts : Tgs} {ds : List D} {ρ ρ' : Env}, bindT.bindTs ts ds ρ = some ρ' → ds.length = ts.len
  | .nil, [], _, _, _ => rfl
  | .nil, _ :: _, _, _, e => by cases e
  | .cons t ts, [], _, _, e => by cases e
  | .cons t ts, d :: ds, ρ, ρ', e => by
    have e : (match bindT t d ρ with | some ρ' => bindT.bindTs ts ds ρ' | none => none) = some ρ' := e
    cases e1 : bindT t d ρ with
    | none => rw [e1] at e; cases e
    | some ρ1 =>
      rw [e1] at e
      rw [List.length_cons, bindTs_length e]
      rfl
theorem g_tup {ts : Tgs} {k : Nat} (hK : X.K = T.K) (hc : X.calm = true) (h : PGs X ets (tGs T pr ts)) (pl : ets.all plainE = true) (hl : ets.length = ts.len) : PG X (.Tuple ets k pos) (tG T pr (.tup ts)) := by
  obtain ⟨a1, a2⟩ := asg_each pl X.env
  refine ⟨fun pins s σ H v u Q I r ⟨G, ρ, F, d, Fv, ρ', ex, re, nd, rd, e, k⟩ => (pg_tup hc h a1 a2).run pins s σ H v u Q I r ?_⟩
  unfold bindT at e
  split at e
  · rename_i xs
    obtain ⟨p, vs, rfl, hp, rl⟩ := rd.tup ex
    refine ⟨p, vs, rfl, by rw [hK]; exact hp, ?_, G, ρ, F, xs, Fv, ρ', ex, re, nd, rl, e, k⟩
    rw [rl.length, hl]
    exact bindTs_length e
  · cases e
/-! ### blocks, small statements -/
variable {st : Stmt} {rs : List Stmt} {ea : Expr}
theorem ss_nil : PSs X [] (tS T W pr (dSs C .nil)) := by
  refine pss_nil.weak fun DD σ H ⟨G, ρ, F, P, h⟩ => ?_
  simp only [dSs] at h
  exact h σ H P.okS
theorem ss_cons {s : S} {ss : Ss} (h1 : PS X st (tS T W pr (dS C s))) (h2 : PSs X rs (tS T W pr (dSs C ss))) : PSs X (st :: rs) (tS T W pr (dSs C (.cons s ss))) := by
  refine (pss_cons h1 h2).weak fun DD σ H ⟨G, ρ, F, P, h⟩ => ?_
  simp only [dSs] at h
  refine ⟨G, ρ, F, P, ?_⟩
  cases e : dS C s ρ with
  | nx ρ1 =>
    rw [e] at h
    have h : PostS T W pr DD G H F σ (dSs C ss ρ1) := h
    intro σ1 H1 ⟨G1, F1, s1, re, k⟩
    exact ⟨G1, ρ1, F1, ⟨s1.h, re, s1.nd, s1.gn⟩, h.mono s1 k⟩
  | _ => rw [e] at h; exact h
theorem s_ex {e : E} (h : PE X ea (tE T W (dE C e))) (hs : swapsWith ea none pos.line X.env = pure false) : PS X (.Expr ea pos) (tS T W pr (dS C (.ex e))) := by
  refine (ps_expr h hs).weak fun DD σ H ⟨G, ρ, F, P, h⟩ => ?_
  simp only [dS] at h
  exact ⟨G, ρ, F, P, h.then.imp (fun (d, o) h v H1 ⟨G1, Fv, F1, E, r⟩ => h σ H1 E.okS) fun _ _ _ z => z⟩
theorem s_doc {x j pos pos'} : PS X (.Expr (.Constant (.str x) j pos) pos') (tS T W pr (dS C .pass)) := by
  refine ps_doc.weak fun DD σ H ⟨G, ρ, F, P, h⟩ => ?_
  simp only [dS] at h
  exact h σ H P.okS
theorem s_pass : PS X (.Pass pos) (tS T W pr (dS C .pass)) := by
  refine ps_pass.weak fun DD σ H ⟨G, ρ, F, P, h⟩ => ?_
  simp only [dS] at h
  exact h σ H P.okS
theorem s_brk : PS X (.Break pos) (tS T W pr (dS C .brk)) := by
  refine ps_break.weak fun DD σ H ⟨G, ρ, F, P, h⟩ => ?_
  simp only [dS] at h
  exact h σ H P.okS
theorem s_cnt : PS X (.Continue pos) (tS T W pr (dS C .cnt)) := by
  refine ps_continue.weak fun DD σ H ⟨G, ρ, F, P, h⟩ => ?_
  simp only [dS] at h
  exact h σ H P.okS
theorem s_never : PS X st (tS T W pr (dS C .never)) := by
  refine ps_never.weak fun DD σ H ⟨G, ρ, F, P, h⟩ => ?_
  simp only [dS] at h
  exact h
theorem s_ret {e : E} (h : PE X ea (tE T W (dE C e))) : PS X (.Return (some ea) pos) (tS T W pr (dS C (.ret e))) := by
  refine (ps_ret h).weak fun DD σ H ⟨G, ρ, F, P, h⟩ => ?_
  simp only [dS] at h
  exact ⟨G, ρ, F, P, h.then.imp (fun (d, o) h v H1 ⟨G1, Fv, F1, E, r⟩ => h v σ H1 ⟨G1, Fv, F1, E.step, r, E.env, .refl⟩) fun _ _ _ z => z⟩
theorem s_retN : PS X (.Return none pos) (tS T W pr (dS C .retN)) := by
  refine ps_retN.weak fun DD σ H ⟨G, ρ, F, P, h⟩ => ?_
  simp only [dS] at h
  exact h .non σ H ⟨G, [], F, P.step0, ⟨rfl, rfl⟩, P.env, .refl⟩
theorem s_if {t : Mp.T} {a b : Ss} {sa sb : List Stmt} (ht : PT X ea (tB' T W (dT C t))) (ha : PSs X sa (tS T W pr (dSs C a))) (hb : PSs X sb (tS T W pr (dSs C b))) : PS X (.If ea sa sb pos) (tS T W pr (dS C (.iff t a b))) := by
  refine (ps_if ht ha hb).weak fun DD σ H ⟨G, ρ, F, P, h⟩ => ?_
  simp only [dS] at h
  refine ⟨G, ρ, F, P, h.then.imp (fun (k, o) h H1 ⟨G1, F1, E⟩ => ?_) fun _ _ _ z => z⟩
  cases k with
  | true =>
    refine cast (if_pos rfl).symm ?_
    exact ⟨G1, now ρ o, F1, E.pre, PostS.mono E.step .refl h⟩
  | false =>
    refine cast (if_neg Bool.false_ne_true).symm ?_
    exact ⟨G1, now ρ o, F1, E.pre, PostS.mono E.step .refl h⟩
theorem s_asg {t : Tg} {e : E} (he : PE X ea (tE T W (dE C e))) (hg : PG X et (tG T pr t)) (hs : swapsWithSole [et] ea pos.line X.env = pure false) (hw : swappedStores [et] ea X.env = pure none) (pl : plainE et = true) : PS X (.Assign [et] ea pos) (tS T W pr (dS C (.asg t e))) := by
  refine (ps_asg he hg hs hw (asg_cons pl [] X.env)).weak fun DD σ H ⟨G, ρ, F, P, h⟩ => ?_
  simp only [dS] at h
  refine ⟨G, ρ, F, P, h.then.imp (fun (d, o) h v H1 ⟨G1, Fv, F1, E, r⟩ => ?_) fun _ _ _ z => z⟩
  simp only at h
  cases eb : bindT t d (now ρ o) with
  | none => simp only [eb] at h; exact h.elim
  | some ρ' =>
    simp only [eb] at h
    exact ⟨G1, now ρ o, F1, d, Fv, ρ', E.step.h, E.env, E.step.nd, r, eb, fun σ' F' re nd sub k => h σ' H1 ⟨G1, F', E.step.less nd sub, re, k⟩⟩
end
end Mp
/-! Fields and items are stored; setdefault; list(range(..)). -/
namespace Mp
open PySem L2
def notSlice (e : Expr) : Bool := match e with
  | .Slice _ _ none _ => false
  | _ => true

section
variable {T : Tab} {G H : Hp}
theorem RpL.setAt : ∀ {xs : List D} {vs : List V} {F : List Addr} {n : Nat} {x : D} {u : V} {Fx : List Addr}, RpL T G H xs vs F → Rp T G H x u Fx → (Fx ++ F).Nodup → ∃ F2, F2.Nodup ∧ (∀ a ∈ F2, a ∈ Fx ++ F) ∧ RpL T G H (xs.set n x) (vs.set n u) F2
  | [], vs, F, n, x, u, Fx, h, r, nd => by
    obtain ⟨rfl, rfl⟩ := h
    exact ⟨[], List.nodup_nil, (fun _ z => nomatch z), rfl, rfl⟩
  | y :: xs, vs, F, 0, x, u, Fx, h, r, nd => by
    obtain ⟨v, ws, F1, F2, rfl, rfl, r1, r2⟩ := h
    refine ⟨Fx ++ F2, ?_, ?_, u, ws, Fx, F2, rfl, rfl, r, r2⟩
    · exact nd.sublist ((List.sublist_append_right F1 F2).append_left Fx)
    · intro a ha
      rcases List.mem_append.mp ha with z | z
      · exact List.mem_append_left _ z
      · exact List.mem_append_right _ (List.mem_append_right _ z)
  | y :: xs, vs, F, n + 1, x, u, Fx, h, r, nd => by
    obtain ⟨v, ws, F1, F2, rfl, rfl, r1, r2⟩ := h
    obtain ⟨n1, n2, n3⟩ := List.nodup_append.mp nd
    obtain ⟨m1, m2, m3⟩ := List.nodup_append.mp n2
    obtain ⟨F3, a1, a2, a3⟩ := RpL.setAt (n := n) r2 r (List.nodup_append.mpr ⟨n1, m2, fun a ha b hb => n3 a ha b (List.mem_append_right _ hb)⟩)
    refine ⟨F1 ++ F3, List.nodup_append.mpr ⟨m1, a1, fun a ha b hb => ?_⟩, fun a ha => ?_, v, _, F1, F3, rfl, rfl, r1, a3⟩
    · rcases List.mem_append.mp (a2 b hb) with z | z
      · exact fun e => n3 b z a (List.mem_append_left _ ha) e.symm
      · exact m3 a ha b z
    · rcases List.mem_append.mp ha with z | z
      · exact List.mem_append_right _ (List.mem_append_left _ z)
      · rcases List.mem_append.mp (a2 a z) with z | z
        · exact List.mem_append_left _ z
        · exact List.mem_append_right _ (List.mem_append_right _ z)
theorem putF_zip {f : Nat} (hf : f < T.nf) {u : V} : ∀ {fs : List Nat} {vs : List V}, (∀ g ∈ fs, g < T.nf) → vs.length = fs.length →
    L2.putF (T.fnm f) u ((fs.map T.fnm).zip vs) = match fldN f fs with
      | some n => (fs.map T.fnm).zip (vs.set n u)
      | none => ((fs ++ [f]).map T.fnm).zip (vs ++ [u])
  | [], [], _, _ => rfl
  | [], v :: vs, _, e => by simp at e
  | g :: fs, [], _, e => by simp at e
  | g :: fs, v :: vs, lt, e => by
    unfold fldN
    simp only [List.map_cons, List.zip_cons_cons, L2.putF]
    by_cases h : g = f
    · subst h
      simp
    · have ne : ¬ T.fnm g = T.fnm f := fun z => h (T.inj g f (lt g List.mem_cons_self) hf z)
      rw [if_neg ne, if_neg h, putF_zip hf (fun a ha => lt a (List.mem_cons_of_mem _ ha)) (by simpa using e)]
      cases fldN f fs with
      | none => rfl
      | some n => rfl
theorem fldN_lt {f : Nat} : ∀ {fs : List Nat} {n : Nat}, fldN f fs = some n → n < fs.length
  | [], n, e => by cases e
  | g :: r, n, e => by
    unfold fldN at e
    split at e
    · cases e; exact Nat.succ_pos _
    · cases q : fldN f r with
      | none => rw [q] at e; cases e
      | some m => rw [q] at e; cases e; exact Nat.succ_lt_succ (fldN_lt q)
theorem fldN_none {f : Nat} : ∀ {fs : List Nat}, fldN f fs = none → f ∉ fs
  | [], _, z => nomatch z
  | g :: r, e, z => by
    unfold fldN at e
    split at e
    · cases e
    · rename_i h
      cases q : fldN f r with
      | some m => rw [q] at e; cases e
      | none =>
        rcases List.mem_cons.mp z with z | z
        · exact h z.symm
        · exact fldN_none q z
/-- a field is written -/
theorem putF_ok {f : Nat} (hf : f < T.nf) {d d' x : D} {v u : V} {F1 Fx : List Addr} (ex : Ext G H) (gn : ∀ a ∈ Fx ++ F1, G a = none) (rd : Rp T G H d v F1) (rx : Rp T G H x u Fx) (nd : (Fx ++ F1).Nodup) (e : Mp.putF d f x = some d') :
    ∃ a c dx fs, v = .ref a ∧ H a = some (.ins (T.ca c) dx fs) ∧ fs.length < 1000 ∧ ∃ F1', Step G H (Fx ++ F1) G (upd H a (.ins (T.ca c) dx (L2.putF (T.fnm f) u fs))) F1' ∧ Rp T G (upd H a (.ins (T.ca c) dx (L2.putF (T.fnm f) u fs))) d' v F1' := by
  unfold Mp.putF at e
  split at e
  · rename_i c fs ds
    obtain ⟨p, dx, vs, F', rfl, rl, len, ndf, lt, ne, hp, hdx, ef⟩ := rd
    have hl := rl.length
    have zl : ((fs.map T.fnm).zip vs).length = fs.length := by rw [List.length_zip, List.length_map, hl, ← len, Nat.min_self]
    have hpm : p ∈ Fx ++ F1 := List.mem_append_right _ (by rw [ef]; exact List.mem_cons_self)
    subst ef
    obtain ⟨n1, n2, n3⟩ := List.nodup_append.mp nd
    obtain ⟨k1, k2⟩ := List.nodup_cons.mp n2
    obtain ⟨k3, k4⟩ := List.nodup_cons.mp k2
    have npF : p ∉ F' := fun z => k1 (List.mem_cons_of_mem _ z)
    have npX : p ∉ Fx := fun z => n3 p z p List.mem_cons_self rfl
    have ndX : dx ∉ Fx := fun z => n3 dx z dx (List.mem_cons_of_mem _ List.mem_cons_self) rfl
    have hz := putF_zip hf (u := u) (fs := fs) (vs := vs) lt (by rw [hl, len])
    cases en : fldN f fs with
    | some n =>
      rw [en] at e
      simp only at e
      split at e
      · rename_i h9
        have h9 := of_decide_eq_true h9
        cases e
        rw [en] at hz
        simp only at hz
        have nd4 : (Fx ++ F').Nodup := List.nodup_append.mpr ⟨n1, k4, fun a ha b hb => n3 a ha b (List.mem_cons_of_mem _ (List.mem_cons_of_mem _ hb))⟩
        obtain ⟨F2, a1, a2, rl2⟩ := RpL.setAt (n := n) rl rx nd4
        have npF2 : p ∉ F2 := fun z => (List.mem_append.mp (a2 p z)).elim npX npF
        have ndF2 : dx ∉ F2 := fun z => (List.mem_append.mp (a2 dx z)).elim ndX k3
        refine ⟨p, c, dx, _, rfl, hp, by rw [zl]; omega, p :: dx :: F2, ?_, ?_⟩
        · refine Step.write ex gn hp hpm ?_ ?_
          · refine List.nodup_cons.mpr ⟨fun z => ?_, List.nodup_cons.mpr ⟨ndF2, a1⟩⟩
            rcases List.mem_cons.mp z with z | z
            · exact ne z
            · exact npF2 z
          · intro a ha
            rcases List.mem_cons.mp ha with z | ha
            · exact List.mem_append_right _ (by rw [z]; exact List.mem_cons_self)
            rcases List.mem_cons.mp ha with z | ha
            · exact List.mem_append_right _ (by rw [z]; exact List.mem_cons_of_mem _ List.mem_cons_self)
            rcases List.mem_append.mp (a2 a ha) with z | z
            · exact List.mem_append_left _ z
            · exact List.mem_append_right _ (List.mem_cons_of_mem _ (List.mem_cons_of_mem _ z))
        · refine ⟨p, dx, vs.set n u, F2, rfl, rl2.upd npF2, by simp [len], ndf, lt, ne, ?_, ?_, rfl⟩
          · rw [upd_same, hz]
          · rw [upd_ne (Ne.symm ne)]; exact hdx
      · cases e
    | none =>
      rw [en] at e
      simp only at e
      split at e
      · rename_i h9
        have h9 := of_decide_eq_true h9
        cases e
        rw [en] at hz
        simp only at hz
        refine ⟨p, c, dx, _, rfl, hp, by rw [zl]; omega, p :: dx :: (F' ++ Fx), ?_, ?_⟩
        · refine Step.write ex gn hp hpm ?_ ?_
          · refine List.nodup_cons.mpr ⟨fun z => ?_, List.nodup_cons.mpr ⟨fun z => (List.mem_append.mp z).elim k3 ndX, List.nodup_append.mpr ⟨k4, n1, fun a ha b hb e => n3 b hb a (List.mem_cons_of_mem _ (List.mem_cons_of_mem _ ha)) e.symm⟩⟩⟩
            rcases List.mem_cons.mp z with z | z
            · exact ne z
            · exact (List.mem_append.mp z).elim npF npX
          · intro a ha
            rcases List.mem_cons.mp ha with z | ha
            · exact List.mem_append_right _ (by rw [z]; exact List.mem_cons_self)
            rcases List.mem_cons.mp ha with z | ha
            · exact List.mem_append_right _ (by rw [z]; exact List.mem_cons_of_mem _ List.mem_cons_self)
            rcases List.mem_append.mp ha with z | z
            · exact List.mem_append_right _ (List.mem_cons_of_mem _ (List.mem_cons_of_mem _ z))
            · exact List.mem_append_left _ z
        · refine ⟨p, dx, vs ++ [u], F' ++ Fx, rfl, RpL.append (rl.upd npF) (.one (rx.upd npX)), by simp [len], ?_, ?_, ne, ?_, ?_, rfl⟩
          · exact List.nodup_append.mpr ⟨ndf, by simp, fun a ha b hb e => fldN_none en (by rw [← List.mem_singleton.mp hb, ← e]; exact ha)⟩
          · intro g hg
            rcases List.mem_append.mp hg with z | z
            · exact lt g z
            · rw [List.mem_singleton.mp z]; exact hf
          · rw [upd_same, hz]
          · rw [upd_ne (Ne.symm ne)]; exact hdx
      · cases e
  · cases e
theorem keys_mem {k : Key} {kvs : List (Key × V)} (h : valV kvs k = none) : k ∉ kvs.map (·.1) := fun z => by
  have := valV_any k kvs
  rw [h] at this
  obtain ⟨q, hq, e⟩ := List.mem_map.mp z
  have h2 : (kvs.any fun kv => decide (kv.1 = k)) = true := List.any_eq_true.mpr ⟨q, hq, decide_eq_true e⟩
  rw [this] at h2
  cases h2
/-- a dict's item is written -/
theorem putK_has {kvs : List (Key × V)} {k : Key} {n : Nat} {p : Key × V} {u : V} (nd : (kvs.map (·.1)).Nodup) (e : kvs[n]? = some p) (ek : p.1 = k) : putK kvs k u = kvs.set n (k, u) ∧ (kvs.set n (k, u)).map (fun q => keyD q.1) = kvs.map (fun q => keyD q.1) ∧ (kvs.set n (k, u)).map (·.1) = kvs.map (·.1) ∧ (kvs.set n (k, u)).map (·.2) = (kvs.map (·.2)).set n u := by
  obtain ⟨hn, e2⟩ := List.getElem?_eq_some_iff.mp e
  refine ⟨?_, ?_, ?_, ?_⟩
  · unfold putK
    have : (kvs.any fun kv => decide (kv.1 = k)) = true := List.any_eq_true.mpr ⟨p, List.mem_of_getElem? e, decide_eq_true ek⟩
    rw [if_pos this]
    refine List.ext_getElem? fun j => ?_
    rw [List.getElem?_map, List.getElem?_set]
    by_cases hj : n = j
    · subst hj
      rw [if_pos rfl, if_pos hn, e]
      simp [ek]
    · rw [if_neg hj]
      cases ej : kvs[j]? with
      | none => rfl
      | some q =>
        simp only [Option.map_some]
        rw [if_neg]
        intro z
        obtain ⟨hj2, e3⟩ := List.getElem?_eq_some_iff.mp ej
        have h1 : (kvs.map (·.1))[n]'(by simpa using hn) = k := by rw [List.getElem_map, e2]; exact ek
        have h2 : (kvs.map (·.1))[j]'(by simpa using hj2) = k := by rw [List.getElem_map, e3]; exact z
        exact hj ((List.getElem_inj nd).mp (h1.trans h2.symm))
  · refine List.ext_getElem? fun j => ?_
    rw [List.getElem?_map, List.getElem?_map, List.getElem?_set]
    by_cases hj : n = j
    · subst hj
      rw [if_pos rfl, if_pos hn, e]
      simp [ek]
    · rw [if_neg hj]
  · refine List.ext_getElem? fun j => ?_
    rw [List.getElem?_map, List.getElem?_map, List.getElem?_set]
    by_cases hj : n = j
    · subst hj
      rw [if_pos rfl, if_pos hn, e]
      simp [ek]
    · rw [if_neg hj]
  · rw [List.map_set]
/-- new entry -/
theorem dct_new {ks ds : List D} {p : Addr} {kvs : List (Key × V)} {F' Fx : List Addr} {x : D} {u : V} {k : Key} (ek : ks = kvs.map fun q => keyD q.1) (rl : RpL T G H ds (kvs.map (·.2)) F') (nd : (kvs.map (·.1)).Nodup) (hz : kvs.length < sizeLine) (hn : valV kvs k = none)
    (npF : p ∉ F') (npX : p ∉ Fx) (rx : Rp T G H x u Fx) : Rp T G (upd H p (.dK (putK kvs k u))) (.dct true true (ks ++ [keyD k]) (ds ++ [x])) (.ref p) (p :: (F' ++ Fx)) := by
  refine ⟨rfl, p, putK kvs k u, F' ++ Fx, rfl, ?_, ?_, ?_, ?_, upd_same, rfl⟩
  · rw [putK_new u hn, List.map_append, ek]; rfl
  · rw [putK_new u hn, List.map_append]
    exact RpL.append (rl.upd npF) (.one (rx.upd npX))
  · rw [putK_new u hn, List.map_append]
    exact List.nodup_append.mpr ⟨nd, by simp, fun a ha b hb e => keys_mem hn ((show b = k by simpa using hb) ▸ e ▸ ha)⟩
  · rw [putK_new u hn, List.length_append, List.length_singleton]
    omega
def rPut (T : Tab) : V → V → V → Hp → (Hp → Prop) → Prop := fun o i v H Q => ∃ G dx dk d' x Fx F1 Fk, Ext G H ∧ Rp T G H dx o F1 ∧ Rp T G H dk i Fk ∧ Rp T G H x v Fx ∧ (Fx ++ F1).Nodup ∧ (∀ a ∈ Fx ++ F1, G a = none) ∧ putD dx dk x = some d' ∧
  ∀ H' F1', Step G H (Fx ++ F1) G H' F1' → Rp T G H' d' o F1' → Q H'
end
section
variable {X : Cx} {T : Tab} {W : WX} {C : Cfg} {pr : Nat → Bool} {ea eo ei : Expr} {pos pos' : Pos}
theorem pset_any (hu : X.A.units + 1 < cLine) : PSet X (rPut T) := by
  intro pins s σ H o i u' ov iv u Q I ro ri rv ⟨G, dx, dk, d', x, Fx, F1, Fk, ex, qx, qk, qv, nd, gn, e, k⟩
  obtain ⟨n1, n2, n3⟩ := List.nodup_append.mp nd
  unfold putD at e
  split at e
  · split at e
    · split at e
      · rename_i n en
        cases e
        obtain ⟨p, vs, F', rfl, hp, rl, ef⟩ := qx
        cases qk.int
        subst ef
        obtain ⟨k1, k2⟩ := List.nodup_cons.mp n2
        have npX : p ∉ Fx := fun z => n3 p z p List.mem_cons_self rfl
        rw [← rl.length] at en
        obtain ⟨F2, a1, a2, rl2⟩ := RpL.setAt (n := n) rl qv (List.nodup_append.mpr ⟨n1, k2, fun a ha b hb => n3 a ha b (List.mem_cons_of_mem _ hb)⟩)
        have np2 : p ∉ F2 := fun z => (List.mem_append.mp (a2 p z)).elim npX k1
        refine set_list pins s σ H _ _ u' ov iv u Q I ro ri rv ⟨p, vs, _, n, rfl, rfl, hp, place_ixN en, k _ (p :: F2) (Step.write ex gn hp (List.mem_append_right _ List.mem_cons_self) (List.nodup_cons.mpr ⟨np2, a1⟩) fun a ha => ?_) ⟨p, _, F2, rfl, upd_same, rl2.upd np2, rfl⟩⟩
        rcases List.mem_cons.mp ha with z | z
        · rw [z]; exact List.mem_append_right _ List.mem_cons_self
        · rcases List.mem_append.mp (a2 a z) with z | z
          · exact List.mem_append_left _ z
          · exact List.mem_append_right _ (List.mem_cons_of_mem _ z)
      · cases e
    · cases e
  · rename_i b ks ds
    split at e
    · rename_i hk
      obtain ⟨eb, p, kvs, F', rfl, ek, rl, ndk, hz, hp, ef⟩ := qx
      subst eb
      obtain ⟨key, _, ed⟩ := keyOk_of hk
      subst ed
      have hx := qk.key
      subst hx
      subst ef
      obtain ⟨k1, k2⟩ := List.nodup_cons.mp n2
      have npX : p ∉ Fx := fun z => n3 p z p List.mem_cons_self rfl
      obtain rfl : ov = Value.ref p := ro
      have hpm : p ∈ Fx ++ (p :: F') := List.mem_append_right _ List.mem_cons_self
      rw [ek] at e
      rcases findD_key key kvs with ⟨e1, e2⟩ | ⟨n, q, e1, e2, e3, e4⟩
      · rw [e1] at e
        simp only at e
        split at e
        · rename_i hl
          have hl := of_decide_eq_true hl
          cases e
          rw [List.length_map, line_eq] at hl
          refine d_setItem hu I (.k hp hl) ri rv fun s' I' => ⟨_, I', k _ (p :: (F' ++ Fx)) (Step.write ex gn hp hpm ?_ ?_) (dct_new rfl rl ndk hl e2 k1 npX qv)⟩
          · exact List.nodup_cons.mpr ⟨fun z => (List.mem_append.mp z).elim k1 npX, List.nodup_append.mpr ⟨k2, n1, fun a ha b hb e => n3 b hb a (List.mem_cons_of_mem _ ha) e.symm⟩⟩
          · intro a ha
            rcases List.mem_cons.mp ha with z | z
            · rw [z]; exact hpm
            · rcases List.mem_append.mp z with z | z
              · exact List.mem_append_right _ (List.mem_cons_of_mem _ z)
              · exact List.mem_append_left _ z
        · cases e
      · rw [e1] at e
        simp only at e
        split at e
        · rename_i hl
          have hl := of_decide_eq_true hl
          cases e
          rw [List.length_map, line_eq] at hl
          obtain ⟨f1, f2, f3, f4⟩ := putK_has (u := u') ndk e2 e3
          obtain ⟨F2, a1, a2, rl2⟩ := RpL.setAt (n := n) rl qv (List.nodup_append.mpr ⟨n1, k2, fun a ha b hb => n3 a ha b (List.mem_cons_of_mem _ hb)⟩)
          have np2 : p ∉ F2 := fun z => (List.mem_append.mp (a2 p z)).elim npX k1
          refine d_setItem hu I (.k hp hl) ri rv fun s' I' => ⟨_, I', k _ (p :: F2) (Step.write ex gn hp hpm (List.nodup_cons.mpr ⟨np2, a1⟩) fun a ha => ?_) ⟨rfl, p, putK kvs key u', F2, rfl, ?_, ?_, ?_, ?_, upd_same, rfl⟩⟩
          · rcases List.mem_cons.mp ha with z | z
            · rw [z]; exact hpm
            · rcases List.mem_append.mp (a2 a z) with z | z
              · exact List.mem_append_left _ z
              · exact List.mem_append_right _ (List.mem_cons_of_mem _ z)
          · rw [f1, f2]
          · rw [f1, f4]; exact rl2.upd np2
          · rw [f1, f3]; exact ndk
          · rw [f1, List.length_set]; exact hz
        · cases e
    · cases e
  · cases e
theorem asg_sub {eo ei : Expr} {pos : Pos} (ix : notSlice ei = true) (env : PySem.Env) (v : Value) : assign (.Subscript eo ei pos) env v = (do
      let ov ← holding [v] (eval eo env)
      let iv ← holding [v, ov] (eval ei env)
      standAt pos
      holding [v, ov, iv] (setItem ov iv v)
      release [v, ov, iv] []) := by
  cases ei with
  | Slice a b c d => cases c with
    | none => cases ix
    | some c => rfl
  | _ => rfl
/-- p[k] = e -/
theorem s_six {p : P} {k e : E} (hu : X.A.units + 1 < cLine) (he : PE X ea (tE T W (dE C e))) (ho : PE X eo (tO T W (dP C p))) (hi : PE X ei (tE T W (dE C k))) (ix : notSlice ei = true)
    (hs : swapsWithSole [.Subscript eo ei pos'] ea pos.line X.env = pure false) (hw : swappedStores [.Subscript eo ei pos'] ea X.env = pure none) : PS X (.Assign [.Subscript eo ei pos'] ea pos) (tS T W pr (dS C (.six p k e))) := by
  have hg := pg_sub (pos := pos') ho hi (pset_any (T := T) hu) (fun v => asg_sub ix X.env v)
  refine (ps_asg he hg hs hw).weak fun DD σ H ⟨G, ρ, F, P, h⟩ => ?_
  simp only [dS] at h
  refine ⟨G, ρ, F, P, h.then.imp (fun (x, o) h v H1 ⟨G1, Fx, F1, E1, rx⟩ => ?_) fun _ _ _ z => z⟩
  refine ⟨G1, now ρ o, F1, E1.pre, (PostS.then h).imp (fun (a, o2) h u H2 ⟨G2, Fv, F2, E2, t2⟩ => ?_) (Xi.ev E1)⟩
  refine ⟨G2, now (now ρ o) o2, F2, E2.pre, (PostS.then h).imp (fun (y, o3) h w H3 ⟨G3, Fk, F3, E3, rk⟩ => ?_) fun c x r z => Xi.ev E2 c x r (Xi.ev E1 c x r z)⟩
  simp only at h t2 E2 E3
  cases fm : (a.firm || o3.isNone) with
  | false => simp only [fm] at h; exact h.elim
  | true =>
    simp only [fm] at h
    cases a with
    | tm _ => exact h.elim
    | pl i π =>
      simp only at h
      obtain ⟨rfl, va⟩ := E3.keepTmp t2 E2.apart fm
      -- the value, the place
      have E12 := E1.trans (Rp.trk _ _ _ rx) E2
      rw [List.append_nil] at E12
      have E12' : Ev T G H F ρ σ (orE o2 o) G2 H2 Fx F2 := E12
      have E3' : Ev T G2 H2 F2 (now ρ (orE o2 o)) σ o3 G3 H3 Fk F3 := by rw [← now_now]; exact E3
      have rx2 := E2.keepRp rx E1.apart
      have E13 := (E12'.trans (Rp.trk _ _ _ rx2) E3')
      have rx3 := E3'.keepRp rx2 E12'.apart
      have E4 := E13.drop (Fw := Fx) (List.nodup_append.mp (List.nodup_append.mp E13.step.nd).1).1 fun a ha => List.mem_append_left _ ha
      unfold storeI at h
      cases eg : getS (now (now (now ρ o) o2) o3) i π with
      | none => simp only [eg] at h; exact h.elim
      | some d =>
        simp only [eg] at h
        cases ep : putD d y x with
        | none => simp only [ep] at h; exact h.elim
        | some d' =>
          simp only [ep] at h
          obtain ⟨F5, rd, nd5, gn5, put⟩ := changeX E3.env E4.step.nd E4.step.gn eg va
          refine ⟨G3, d, y, d', x, Fx, F5, Fk, E3.step.h, rd, rk, rx3, nd5, gn5, ep, fun H' F1' s' rd' => ?_⟩
          obtain ⟨F', s2, re2⟩ := put (Fv := []) (F1' := F1') (by rw [List.nil_append]; exact s') rd'
          exact h σ H' ⟨G3, F', E4.step.trans (by rw [List.nil_append] at s2; exact s2), re2, .refl⟩
/-- p.f = e -/
theorem s_sfld {p : P} {f : Nat} {e : E} (co : ClsOk X T) (hf : f < T.nf) (he : PE X ea (tE T W (dE C e))) (ho : PE X eo (tO T W (dP C p)))
    (hs : swapsWith ea (some (.Attribute eo (T.fnm f) pos')) pos.line X.env = pure false) : PS X (.Assign [.Attribute eo (T.fnm f) pos'] ea pos) (tS T W pr (dS C (.sfld p f e))) := by
  refine (ps_fld ho he hs).weak fun DD σ H ⟨G, ρ, F, P, h⟩ => ?_
  simp only [dS] at h
  refine ⟨G, ρ, F, P, h.then.imp (fun (x, o) h v H1 ⟨G1, Fx, F1, E1, rx⟩ => ?_) fun _ _ _ z => z⟩
  refine ⟨G1, now ρ o, F1, E1.pre, (PostS.then h).imp (fun (a, o2) h u H2 ⟨G2, Fv, F2, E2, t2⟩ => ?_) (Xi.ev E1)⟩
  simp only at h t2 E2
  cases a with
  | tm _ => exact h.elim
  | pl i π =>
    simp only at h
    obtain ⟨rfl, va⟩ := t2
    have E12 := E1.trans (Rp.trk _ _ _ rx) E2
    rw [List.append_nil] at E12
    have rx2 := E2.keepRp rx E1.apart
    unfold storeF at h
    cases eg : getS (now (now ρ o) o2) i π with
    | none => simp only [eg] at h; exact h.elim
    | some d =>
      simp only [eg] at h
      cases ep : Mp.putF d f x with
      | none => simp only [ep] at h; exact h.elim
      | some d' =>
        simp only [ep] at h
        obtain ⟨F5, rd, nd5, gn5, put⟩ := changeX E2.env E12.step.nd E12.step.gn eg va
        obtain ⟨q, c, dx, fs, rfl, hq, hl, F1', s', rd'⟩ := putF_ok hf E2.step.h gn5 rd rx2 nd5 ep
        obtain ⟨F', s2, re2⟩ := put (Fv := []) (F1' := F1') (by rw [List.nil_append]; exact s') rd'
        exact ⟨q, _, dx, fs, rfl, hq, co.cls c, co.no c f hf, hl, h σ _ ⟨G2, F', E12.step.trans (by rw [List.nil_append] at s2; exact s2), re2, .refl⟩⟩
/-! ### setdefault -/
def rSetd : V → List V → Hp → VK → Prop := fun x us H Q => ∃ a kvs k z, x = .ref a ∧ us = [kV k, z] ∧ H a = some (.dK kvs) ∧ kvs.length < sizeLine ∧ (∀ v, valV kvs k = some v → Q v H) ∧ (valV kvs k = none → Q z (upd H a (.dK (putK kvs k z))))
theorem bm_setdef : BmOk T .setdef rSetd := by
  intro G H d d' y x xs us Fa F1 Q ex rd ra e nd gn k
  unfold bmD at e
  split at e <;> first | contradiction | cases e | skip
  · rename_i b ks ds dk dz
    split at e
    · rename_i hk
      obtain ⟨eb, p, kvs, F', rfl, ek, rl, ndk, hz, hp, ef⟩ := rd
      subst eb
      obtain ⟨key, _, ed⟩ := keyOk_of hk
      subst ed
      obtain ⟨u1, ws, Fk, Fw, rfl, rfl, r1, u2, ws2, Fz, Fw2, rfl, rfl, r2, ⟨rfl, rfl⟩⟩ := ra
      have hk2 := r1.key
      subst hk2
      have hFk : Fk = [] := by cases key <;> exact r1.2
      subst hFk
      rw [List.append_nil, List.nil_append] at nd gn k
      obtain ⟨n1, n2, n3⟩ := List.nodup_append.mp nd
      subst ef
      obtain ⟨k1, k2⟩ := List.nodup_cons.mp n2
      have npX : p ∉ Fz := fun z => n3 p z p List.mem_cons_self rfl
      have hpm : p ∈ Fz ++ (p :: F') := List.mem_append_right _ List.mem_cons_self
      subst ek
      rcases findD_key key kvs with ⟨e1, e2⟩ | ⟨n, q, e1, e2, e3, e4⟩
      · rw [e1] at e
        simp only at e
        split at e
        · rename_i hl
          have hl := of_decide_eq_true hl
          cases e
          rw [List.length_map, line_eq] at hl
          refine ⟨p, kvs, key, u2, rfl, rfl, hp, hl, (fun v hv => by rw [e2] at hv; cases hv), fun _ => ?_⟩
          refine k u2 G _ [] (p :: (F' ++ Fz)) (Step.write ex gn hp hpm ?_ ?_) (by simp only [Rp]) (dct_new rfl rl ndk hl e2 k1 npX r2)
          · rw [List.nil_append]
            exact List.nodup_cons.mpr ⟨fun z => (List.mem_append.mp z).elim k1 npX, List.nodup_append.mpr ⟨k2, n1, fun a ha b hb e => n3 b hb a (List.mem_cons_of_mem _ ha) e.symm⟩⟩
          · intro a ha
            rw [List.nil_append] at ha
            rcases List.mem_cons.mp ha with z | z
            · rw [z]; exact hpm
            · rcases List.mem_append.mp z with z | z
              · exact List.mem_append_right _ (List.mem_cons_of_mem _ z)
              · exact List.mem_append_left _ z
        · cases e
      · rw [e1] at e
        simp only at e
        split at e
        · rename_i hl
          have hl := of_decide_eq_true hl
          cases e
          rw [List.length_map, line_eq] at hl
          refine ⟨p, kvs, key, u2, rfl, rfl, hp, hl, fun v hv => ?_, fun hn => by rw [e4] at hn; cases hn⟩
          refine k v G H [] (p :: F') ⟨.refl _, ex, fun _ _ q _ => q, fun a ha => .inl (List.mem_append_right _ ha), fun _ _ q => .inl q, n2, fun a ha => gn a (List.mem_append_right _ ha)⟩ (by simp only [Rp]) ⟨rfl, p, kvs, F', rfl, rfl, rl, ndk, hz, hp, rfl⟩
        · cases e
    · cases e
theorem es2_den {a b : E} {σ : L2.St} {H : Hp} {Q : List V → Hp → Prop} (h : tEs T W (dEs C (.cons a (.cons b .nil))) σ H Q) : tE T W (dE C a) σ H fun v H1 => tE T W (dE C b) σ H1 fun u H2 => Q [v, u] H2 := by
  obtain ⟨G, ρ, F, P, h⟩ := h
  simp only [dEs] at h
  refine ⟨G, ρ, F, P, h.bind.imp (fun (x, o1) h v H1 ⟨G1, Fv, F1, E1, t1⟩ => ?_) fun _ _ _ z => z⟩
  refine ⟨G1, now ρ o1, F1, E1.pre, (Post.bind (Post.bind h)).imp (fun (y, o2) h u H2 ⟨G2, Fu, F2, E2, t2⟩ => ?_) (Xi.ev E1)⟩
  exact h [v, u] H2 ⟨G2, Fv ++ Fu, F2, E1.trans (Rp.trk _ _ _ t1) E2, v, [u], Fv, Fu, rfl, rfl, E2.keepRp t1 E1.apart, .one t2⟩
theorem e_setdef {p : P} {a b : E} {apos cpos : Pos} {e1 e2 : Expr} (ho : PE X eo (tO T W (dP C p))) (h1 : PE X e1 (tE T W (dE C a))) (h2 : PE X e2 (tE T W (dE C b))) (hb : attributeBase eo "setdefault" X.env (eval eo X.env) = eval eo X.env)
    (pl : [e1, e2].all plainE = true) (hl : (apos.endLine == cpos.line) = true) : PE X (.Call (.Attribute eo "setdefault" apos) [e1, e2] [] cpos) (tE T W (dE C (.bm .setdef p (.cons a (.cons b .nil))))) := by
  have p1 : plainE e1 = true ∧ plainE e2 = true := by simpa using pl
  refine (pe_dsetd ho h1 h2 ⟨hb, few_ok pl (show 2 < 30 by decide), hl, by rw [star_cons p1.1, star_cons p1.2]; rfl⟩).weak fun σ H Q h => ?_
  refine (bm_den bm_setdef h).mono fun v H1 ⟨z, q⟩ => ?_
  rcases z with ⟨z, _⟩ | ⟨_, l, kvs, rfl, hq⟩
  · cases z
  · refine ⟨l, rfl, .inl ⟨kvs, .inl hq⟩, (es2_den q).mono fun u H2 z => z.mono fun w H3 ⟨a', kvs', k, z', e1, e2, e3, e4, e5, e6⟩ => ?_⟩
    cases e1
    cases e2
    exact ⟨kvs', k, e3, rfl, e4, e5, e6⟩
/-! ### list(range(..)) -/
theorem RpL.rng {G H : Hp} : ∀ (n : Nat) (a : Int), RpL T G H (rngL a n) ((List.range n).map fun i => V.int (a + (i : Nat))) []
  | 0, a => ⟨rfl, rfl⟩
  | n + 1, a => by
    rw [List.range_succ_eq_map, List.map_cons, List.map_map]
    refine ⟨_, _, [], [], rfl, rfl, ⟨by simp, rfl⟩, ?_⟩
    have h := RpL.rng (G := G) (H := H) n (a + 1)
    refine cast (congrArg (fun vs => RpL T G H (rngL (a + 1) n) vs []) ?_) h
    refine List.map_congr_left fun i _ => ?_
    show V.int (a + 1 + (i : Int)) = V.int (a + ((i + 1 : Nat) : Int))
    congr 1
    omega
end
end Mp
/-! What is walked; for. -/
namespace Mp
open PySem L2

def lockOf : I → Option Nat
  | .lock i => some i
  | _ => none
def Held (A : Hp) (R : List Addr) (H : Hp) : Prop := ∀ a ∈ R, ∀ o, A a = some o → H a = some o
/-- an iterator that yields these data -/
structure Wk (T : Tab) (J : It) (ds : List D) (G A : Hp) (R : List Addr) : Prop where
  stop : ∀ H, Ext G H → Held A R H → J.stop ds.length H
  go : ∀ i H, Ext G H → Held A R H → i < ds.length → J.go i H
  yld : ∀ i Gc H x H' d, Ext G Gc → Ext Gc H → Held A R H → J.yld i H x H' → ds[i]? = some d → ∃ Gc', Step Gc H [] Gc' H' [] ∧ Rp T Gc' H' d x []
def OkI (T : Tab) (it : I) (G H : Hp) (F : List Addr) (ρ : Env) (σ : L2.St) (o : Option Env) (ds : List D) (J : It) (H1 : Hp) : Prop :=
  ∃ G1 F1 R F2, Ev T G H F ρ σ o G1 H1 [] F1 ∧ F1.Perm (R ++ F2) ∧ RpE T G1 H1 (lockI it (now ρ o)) σ F2 ∧ Wk T J ds G1 H1 R ∧
    ∀ G2 H2 ρ2 σ2 F3, RpE T G2 H2 ρ2 σ2 F3 → Ext G1 G2 → Held H1 R H2 → (R ++ F3).Nodup → (∀ i, lockOf it = some i → σ2[i]? = σ[i]?) → ∃ F4, F4.Nodup ∧ (∀ a ∈ F4, a ∈ R ++ F3) ∧ RpE T G2 H2 (unlockI it (now ρ o) ρ2) σ2 F4
def tI (T : Tab) (W : WX) (it : I) (den : Env → R (List D × Option Env)) : TI := fun σ H Q => ∃ G ρ F, Pre T G H ρ σ F ∧ Post (den ρ) (fun (ds, o) => ∀ J H1, OkI T it G H F ρ σ o ds J H1 → Q J H1) (Xi T W G H F σ)
section
variable {T : Tab} {W : WX} {G G' H H' A : Hp} {ρ : Env} {σ : L2.St} {F R : List Addr}
theorem idle_back {it : I} (e1 : ∀ ρ, lockI it ρ = ρ) (e2 : ∀ ρ ρ', unlockI it ρ ρ' = ρ') {o : Option Env} {ds : List D} {J : It} {G1 H1 : Hp} {F1 : List Addr} (E : Ev T G H F ρ σ o G1 H1 [] F1) (wk : Wk T J ds G1 H1 []) : OkI T it G H F ρ σ o ds J H1 :=
  ⟨G1, F1, [], F1, E, .refl _, by rw [e1]; exact E.env, wk, fun G2 H2 ρ2 σ2 F3 re _ _ nd _ => ⟨F3, nd, fun a ha => ha, by rw [e2]; exact re⟩⟩
theorem wk_list {K : PySem.W.Frag} {p : Addr} {ds : List D} {vs : List V} (h : ∀ H, Ext G H → Held A R H → SqL K H p vs) (rl : RpL T G G ds vs []) : Wk T (Itl K p) ds G A R := by
  have hl := rl.length
  refine ⟨fun H ex hd => ⟨vs, h H ex hd, by rw [hl]; exact Nat.le_refl _⟩, fun i H ex hd hi => ?_, fun i Gc H x H' d ex exc hd y e => ?_⟩
  · obtain ⟨w, ew⟩ := getElem?_someD (xs := vs) (n := i) (by rw [hl]; exact hi)
    exact ⟨vs, w, h H ex hd, ew⟩
  · obtain ⟨e1, y⟩ := y
    subst e1
    have ex2 := y vs (h _ (ex.trans exc) hd)
    obtain ⟨w, F1, ew, rw', _⟩ := rl.get e
    have rw' : Rp T G G d w [] := by
      obtain ⟨w2, ew2, r2⟩ := rl.shMem e
      rw [ew] at ew2
      cases ew2
      exact r2
    rw [ex2] at ew
    cases ew
    exact ⟨Gc, .idle exc, Rp.mono ex _ _ _ rw' (fun _ z => nomatch z)⟩
theorem wk_tup {K : PySem.W.Frag} {p : Addr} {ds : List D} {vs : List V} (h : ∀ H, Ext G H → Held A R H → SqT K H p vs) (rl : RpL T G G ds vs []) : Wk T (Itt K p) ds G A R := by
  have hl := rl.length
  refine ⟨fun H ex hd => ⟨vs, h H ex hd, by rw [hl]; exact Nat.le_refl _⟩, fun i H ex hd hi => ?_, fun i Gc H x H' d ex exc hd y e => ?_⟩
  · obtain ⟨w, ew⟩ := getElem?_someD (xs := vs) (n := i) (by rw [hl]; exact hi)
    exact ⟨vs, w, h H ex hd, ew⟩
  · obtain ⟨e1, y⟩ := y
    subst e1
    have ex2 := y vs (h _ (ex.trans exc) hd)
    obtain ⟨w2, ew2, r2⟩ := rl.shMem e
    rw [ex2] at ew2
    cases ew2
    exact ⟨Gc, .idle exc, Rp.mono ex _ _ _ r2 (fun _ z => nomatch z)⟩
theorem wk_rng (lo : Int) (n : Nat) : Wk T (Itr lo n) (rngL lo n) G A R := by
  have hl : ∀ (n : Nat) (lo : Int), (rngL lo n).length = n := by
    intro n
    induction n with
    | zero => intro lo; rfl
    | succ n ih => intro lo; simp only [rngL, List.length_cons, ih]
  have hg : ∀ (n : Nat) (lo : Int) (i : Nat) (d : D), (rngL lo n)[i]? = some d → d = .int (lo + i) := by
    intro n
    induction n with
    | zero => intro lo i d e; simp [rngL] at e
    | succ n ih =>
      intro lo i d e
      cases i with
      | zero => simp [rngL] at e; rw [← e]; simp
      | succ i =>
        simp only [rngL, List.getElem?_cons_succ] at e
        rw [ih _ _ _ e]
        congr 1
        omega
  refine ⟨fun H _ _ => by rw [hl]; exact Nat.le_refl _, fun i H _ _ hi => by rw [hl] at hi; exact hi, fun i Gc H x H' d ex exc hd y e => ?_⟩
  obtain ⟨e1, e2⟩ := y
  subst e1 e2
  rw [hg n lo i d e]
  exact ⟨Gc, .idle exc, rfl, rfl⟩
end
section
variable {X : Cx} {T : Tab} {W : WX} {C : Cfg} {ea eb tg : Expr} {pos p : Pos}
/-- a list or a tuple -/
theorem pi_any {l : Expr} {tl : TE} (hl : PE X l tl) : PI X tg l (fun σ H R => tl σ H fun x H1 => ∃ a, x = .ref a ∧ (((∃ xs, SqL X.K H1 a xs) ∧ R (Itl X.K a) H1) ∨ ((∃ xs, SqT X.K H1 a xs) ∧ R (Itt X.K a) H1))) := by
  refine ⟨fun pins s σ H R I h => ?_⟩
  refine thn (hl.run pins s σ H _ I h) fun v s1 ⟨x, H1, I1, r1, q1⟩ => ?_
  obtain ⟨a, e, q⟩ := q1
  subst e
  cases r1
  have fp : ∀ b ∈ [s1.heap.objs.size], FpOk X pins H1 b := fun b hb => by
    have e : b = s1.heap.objs.size := by simpa using hb
    subst e
    exact I1.fpOk (Nat.le_refl _) (I1.hok.fresh (Nat.le_refl _))
  rcases q with ⟨⟨xs, hq⟩, q⟩ | ⟨⟨xs, hq⟩, q⟩
  · obtain ⟨its, rv, p, hz⟩ := I1.list hq
    refine wpAny_pyIter_list p.isList ?_
    exact ⟨s1.heap.objs.size, [s1.heap.objs.size], _, _, H1, rfl, I1.kept (t' := s1.toks) fun b o e => Heap.get?_push_of_some _ e, turn_list a _, ⟨_, Heap.get?_push_size _ rfl, rfl, rfl⟩, fp, q⟩
  · obtain ⟨its, rv, p, hz⟩ := I1.tuple hq
    refine wpAny_pyIter_tuple (show s1.heap.IsTuple a its.toArray from p) ?_
    exact ⟨s1.heap.objs.size, [s1.heap.objs.size], _, _, H1, rfl, I1.kept (t' := s1.toks) fun b o e => Heap.get?_push_of_some _ e, turn_tuple a _, ⟨_, Heap.get?_push_size _ rfl, rfl, rfl⟩, fp, q⟩
theorem _root_.L2.PI.weak {X : Cx} {tg e : Expr} {t t' : TI} (h : PI X tg e t) (w : ∀ σ H Q, t' σ H Q → t σ H Q) : PI X tg e t' := ⟨fun pins s σ H Q I q => h.run pins s σ H Q I (w σ H Q q)⟩
/-- data kept as ground: a shared sequence -/
theorem keepO_ok {a : OV} {v : V} {o : Option Env} {G H G1 H1 : Hp} {F F1 Fv : List Addr} {ρ : Env} {σ : L2.St} {d : D} {o2 : Option Env} (E : Ev T G H F ρ σ o G1 H1 Fv F1) (t : Tmp T G1 H1 (now ρ o) σ a v Fv) (e : keepO ρ o a = .ok (d, o2)) : OkE T G H F ρ σ o2 d v H1 := by
  cases a with
  | tm x =>
    have e : (match soft x with | some d => R.ok (d, o) | none => .stuck) = R.ok (d, o2) := e
    cases es : soft x with
    | none => rw [es] at e; cases e
    | some y =>
      rw [es] at e
      cases e
      rcases soft_rp es t E.step.h with ⟨_, r⟩ | r
      · exact ⟨G1, Fv, F1, E, r⟩
      · exact ⟨_, [], F1, E.freeze (Fw := Fv) (fun _ z => z), r⟩
  | pl i π =>
    obtain ⟨rfl, va⟩ := t
    have e : ((keep (now ρ o) i π).bind fun (d, o2) => R.ok (d, orE o2 o)) = R.ok (d, o2) := e
    cases ek : keep (now ρ o) i π with
    | ok q =>
      obtain ⟨d', o'⟩ := q
      rw [ek] at e
      cases e
      exact (keep_ok E.pre va ek).after E
    | exc c x r => rw [ek] at e; cases e
    | stuck => rw [ek] at e; cases e
theorem keepO_exc {a : OV} {ρ : Env} {o : Option Env} {c : Nat} {x : D} {r : Env} : keepO ρ o a ≠ .exc c x r := by
  cases a with
  | tm d =>
    show (match soft d with | some d => R.ok (d, o) | none => .stuck) ≠ R.exc c x r
    split <;> simp
  | pl i π =>
    show ((keep (now ρ o) i π).bind fun (d, o2) => R.ok (d, orE o2 o)) ≠ R.exc c x r
    unfold keep
    split
    · simp [R.bind]
    · split
      · simp [R.bind]
      · split <;> simp [R.bind]
theorem okSeq {d : D} {v : V} {G H : Hp} {Fv : List Addr} {xs : List D} (r : Rp T G H d v Fv) (e : seqOf d = some xs) (hs : shL xs = true) : ∃ q vs, v = .ref q ∧ ((∀ H', Ext (lay G H Fv) H' → Ext G H' → SqL T.K H' q vs) ∨ (∀ H', Ext (lay G H Fv) H' → Ext G H' → SqT T.K H' q vs)) ∧ ∀ H', RpL T G H' xs vs [] := by
  unfold seqOf at e
  split at e
  · cases e
    rename_i o
    cases o with
    | false =>
      obtain ⟨p, vs, ev, q, r, _⟩ := r
      exact ⟨p, vs, ev, .inl fun H' _ ex => .inl (.inl (ex _ _ q)), fun H' => RpL.sh hs r (.refl _)⟩
    | true =>
      obtain ⟨p, vs, F', ev, q, r, ef⟩ := r
      exact ⟨p, vs, ev, .inl fun H' ex _ => .inl (.inl (ex _ _ (lay_get p (by rw [ef]; exact List.mem_cons_self) _ q))), fun H' => RpL.sh hs r (.refl _)⟩
  · cases e
    obtain ⟨p, vs, ev, q, r⟩ := r
    exact ⟨p, vs, ev, .inr fun H' _ ex => ex.sqT q, fun H' => RpL.sh hs r (.refl _)⟩
  · cases e
theorem i_seq {a : O} (hK : X.K = T.K) (ha : PE X ea (tO T W (dO C a))) : PI X tg ea (tI T W (.seq a) (dI C (.seq a))) := by
  refine (pi_any ha).weak fun σ H Q ⟨G, ρ, F, P, h⟩ => ?_
  simp only [dI] at h
  refine ⟨G, ρ, F, P, h.bind.imp (fun (x, o1) h v H1 ⟨G1, Fv, F1, E1, t1⟩ => ?_) fun _ _ _ z => z⟩
  rcases (Post.bind h).two with ⟨⟨d, o2⟩, ek, h⟩ | ⟨_, _, _, ek, _⟩
  rotate_left
  · exact absurd ek keepO_exc
  simp only at h
  cases es : seqOf d with
  | none => simp only [es] at h; exact h.elim
  | some xs =>
    simp only [es] at h
    cases hs : shL xs with
    | false => simp only [hs] at h; exact h.elim
    | true =>
      simp only [hs] at h
      obtain ⟨G2, Fw, F2, E2, r2⟩ := keepO_ok E1 t1 ek
      obtain ⟨q, vs, rfl, hq, rl⟩ := okSeq r2 es hs
      have E3 := E2.freeze (Fw := Fw) fun _ z => z
      have exG : Ext G2 (lay G2 H1 Fw) := lay_ext E2.step.h
      refine ⟨q, rfl, ?_⟩
      rcases hq with hq | hq
      · refine .inl ⟨⟨vs, by rw [hK]; exact hq H1 E3.step.h E2.step.h⟩, h _ H1 (idle_back (fun _ => rfl) (fun _ _ => rfl) E3 (wk_list (vs := vs) (fun H' ex _ => by rw [hK]; exact hq H' ex (exG.trans ex)) (RpL.mono exG xs vs [] (rl H1) (fun _ z => nomatch z))))⟩
      · refine .inr ⟨⟨vs, by rw [hK]; exact hq H1 E3.step.h E2.step.h⟩, h _ H1 (idle_back (fun _ => rfl) (fun _ _ => rfl) E3 (wk_tup (vs := vs) (fun H' ex _ => by rw [hK]; exact hq H' ex (exG.trans ex)) (RpL.mono exG xs vs [] (rl H1) (fun _ z => nomatch z))))⟩
theorem rng_one {ds : List D} {j : Int} {r : List D} (e : rngD [.int j] = some r) : -(2 ^ 62) ≤ j ∧ j < 2 ^ 62 ∧ r = rngL 0 j.toNat := by
  have e : (if okR j then some (rngL 0 j.toNat) else none) = some r := e
  split at e
  · rename_i h
    simp only [okR_eq] at h
    unfold two62 at h
    simp only [Bool.and_eq_true, decide_eq_true_eq] at h
    cases e
    exact ⟨by have := h.1; omega, by have := h.2; omega, rfl⟩
  · cases e
theorem i_rng1 {a : O} (hg : Gl X "range") (hm : X.mg "range" = none) (ha : PE X ea (tO T W (dO C a))) (pl : plainE ea = true) : PI X tg (.Call (.Name "range" p) [ea] [] pos) (tI T W (.rng1 a) (dI C (.rng1 a))) := by
  refine (pi_range1 hg hm (pa_cons ha pa_nil (star_cons pl [] X.env)) (star_cons pl [] X.env)).weak fun σ H Q ⟨G, ρ, F, P, h⟩ => ?_
  simp only [dI] at h
  refine ⟨G, ρ, F, P, h.bind.imp (fun (x, o1) h v H1 ⟨G1, Fv, F1, E1, t1⟩ => ?_) fun _ _ _ z => z⟩
  simp only at h t1 E1
  cases er : x.rd (now ρ o1) with
  | none => simp only [er] at h; exact h.elim
  | some d =>
    simp only [er] at h
    cases d with
    | int j =>
      simp only at h
      obtain ⟨Fw, hw, Fd, rd⟩ := Tmp.read E1.pre t1 er
      cases eg : rngD [.int j] with
      | none => simp only [eg] at h; exact h.elim
      | some r =>
        simp only [eg] at h
        obtain ⟨b1, b2, rfl⟩ := rng_one (ds := []) eg
        refine ⟨j, by rw [rd.int], b1, b2, h _ H1 (idle_back (fun _ => rfl) (fun _ _ => rfl) E1.nil (wk_rng 0 j.toNat))⟩
    | _ => exact h.elim
/-- a slot's own sequence, out of reach meanwhile -/
theorem lock_ok {i : Nat} {G H G1 H1 : Hp} {F F1 : List Addr} {ρ : Env} {σ : L2.St} {o : Option Env} {d : D} {xs : List D} (E : Ev T G H F ρ σ o G1 H1 [] F1) (ed : slot (now ρ o) i = d) (ng : d ≠ .gone) (es : seqOf d = some xs) (hs : shL xs = true) :
    ∃ v q vs, σ[i]? = some (some v) ∧ v = .ref q ∧ ((SqL T.K H1 q vs ∧ OkI T (.lock i) G H F ρ σ o xs (Itl T.K q) H1) ∨ (SqT T.K H1 q vs ∧ OkI T (.lock i) G H F ρ σ o xs (Itt T.K q) H1)) := by
  obtain ⟨v, ev, hi⟩ := E.env.vat ed ng
  obtain ⟨s, A, B, es', pm, rs, put⟩ := E.env.focus hi
  rw [ev] at es'
  cases es'
  have rd : Rp T G1 H1 d v A := by
    rcases rs with ⟨eg, _⟩ | ⟨w, ew, r⟩
    · exact absurd (ed.symm.trans eg) ng
    · cases ew
      rw [← ed]; exact r
  obtain ⟨F2, pm2, re2⟩ := put (F1' := []) (d' := .gone) (s' := some v) (.refl _) (fun _ _ _ q => q) (.inl ⟨rfl, rfl⟩)
  rw [set_same ev] at re2
  rw [List.nil_append] at pm2
  have pm3 : F1.Perm (A ++ F2) := pm.trans (pm2.symm.append_left A)
  have back : ∀ G2 H2 ρ2 σ2 F3, RpE T G2 H2 ρ2 σ2 F3 → Ext G1 G2 → Held H1 A H2 → (A ++ F3).Nodup → (∀ j, lockOf (.lock i) = some j → σ2[j]? = σ[j]?) → ∃ F4, F4.Nodup ∧ (∀ a ∈ F4, a ∈ A ++ F3) ∧ RpE T G2 H2 (unlockI (.lock i) (now ρ o) ρ2) σ2 F4 := by
    intro G2 H2 ρ2 σ2 F3 re ex hd nd k
    have r3 : Rp T G2 H2 d v A := Rp.mono ex d v A rd hd
    show ∃ F4, F4.Nodup ∧ (∀ a ∈ F4, a ∈ A ++ F3) ∧ RpE T G2 H2 (ρ2.set i (slot (now ρ o) i)) σ2 F4
    rw [ed]
    exact re.put nd r3 ((k i rfl).trans ev)
  have fin : ∀ {J : It}, Wk T J xs G1 H1 A → OkI T (.lock i) G H F ρ σ o xs J H1 := fun wk => ⟨G1, F1, A, F2, E, pm3, re2, wk, back⟩
  unfold seqOf at es
  split at es
  · cases es
    rename_i ow
    cases ow with
    | false =>
      obtain ⟨p, vs, e1, q, r, _⟩ := rd
      exact ⟨v, p, vs, ev, e1, .inl ⟨.inl (.inl (E.step.h _ _ q)), fin (wk_list (vs := vs) (fun H' ex _ => .inl (.inl (ex _ _ q))) (RpL.sh hs r (.refl _)))⟩⟩
    | true =>
      obtain ⟨p, vs, F', e1, q, r, ef⟩ := rd
      exact ⟨v, p, vs, ev, e1, .inl ⟨.inl (.inl q), fin (wk_list (vs := vs) (fun H' ex hd => .inl (.inl (hd p (by rw [ef]; exact List.mem_cons_self) _ q))) (RpL.sh hs r (.refl _)))⟩⟩
  · cases es
    obtain ⟨p, vs, e1, q, r⟩ := rd
    exact ⟨v, p, vs, ev, e1, .inr ⟨E.step.h.sqT q, fin (wk_tup (vs := vs) (fun H' ex _ => ex.sqT q) (RpL.sh hs r (.refl _)))⟩⟩
  · cases es
theorem i_lock {i : Nat} (hK : X.K = T.K) (ha : PE X ea (tVar i)) : PI X tg ea (tI T W (.lock i) (dI C (.lock i))) := by
  refine (pi_any ha).weak fun σ H Q ⟨G, ρ, F, P, h⟩ => ?_
  simp only [dI] at h
  cases es : seqOf (slot ρ i) with
  | none => simp only [es] at h; exact h.elim
  | some xs =>
    simp only [es] at h
    have ng : slot ρ i ≠ .gone := fun z => by rw [z] at es; cases es
    have fin : ∀ {o : Option Env} {ys : List D}, (∀ J H1, OkI T (.lock i) G H F ρ σ o ys J H1 → Q J H1) → (∃ v q vs, σ[i]? = some (some v) ∧ v = V.ref q ∧ ((SqL T.K H q vs ∧ OkI T (.lock i) G H F ρ σ o ys (Itl T.K q) H) ∨ (SqT T.K H q vs ∧ OkI T (.lock i) G H F ρ σ o ys (Itt T.K q) H))) →
        tVar i σ H fun x H1 => ∃ a, x = .ref a ∧ (((∃ xs, SqL X.K H1 a xs) ∧ Q (Itl X.K a) H1) ∨ ((∃ xs, SqT X.K H1 a xs) ∧ Q (Itt X.K a) H1)) := fun h ⟨v, q, vs, e1, e2, e3⟩ => by
      rw [hK]
      refine ⟨v, e1, q, e2, ?_⟩
      rcases e3 with ⟨e3, e4⟩ | ⟨e3, e4⟩
      · exact .inl ⟨⟨vs, e3⟩, h _ _ e4⟩
      · exact .inr ⟨⟨vs, e3⟩, h _ _ e4⟩
    cases hs : shL xs with
    | true =>
      simp only [hs] at h
      exact fin h (lock_ok P.ev0 rfl ng es hs)
    | false =>
      simp only [hs] at h
      cases hf : fzableL xs with
      | false => simp only [hf] at h; exact h.elim
      | true =>
        simp only [hf] at h
        obtain ⟨v, ev, hi⟩ := P.env.vat rfl ng
        have eg : getS ρ i [] = some (slot ρ i) := by
          unfold getS
          cases e : slot ρ i <;> first | rfl | exact absurd e ng
        obtain ⟨F1, r, n1, g1, put⟩ := P.change eg (.var ev)
        have hfz : fzable (slot ρ i) = true := by
          cases e : slot ρ i with
          | lst o ys => rw [e] at es; cases es; simpa only [fzable] using hf
          | tup ys => rw [e] at es; cases es; simpa only [fzable] using hf
          | _ => rw [e] at es; cases es
        have r2 : Rp T (lay G H F1) H (fz (slot ρ i)) v [] := Rp.fz (lay_ext P.ex) _ v F1 hfz r lay_get
        obtain ⟨F', E⟩ := put (Fv := []) (F1' := []) (Step.freeze P.ex) r2
        have es2 : seqOf (fz (slot ρ i)) = some (fzL xs) := by
          cases e : slot ρ i with
          | lst o ys => rw [e] at es; cases es; rfl
          | tup ys => rw [e] at es; cases es; rfl
          | _ => rw [e] at es; cases es
        have sl : slot (ρ.set i (fz (slot ρ i))) i = fz (slot ρ i) := by
          unfold slot
          rw [List.getD_eq_getElem?_getD, List.getElem?_set_self hi]
          rfl
        exact fin h (lock_ok (o := some (ρ.set i (fz (slot ρ i)))) E sl (fun z => by rw [z] at es2; cases es2) es2 (shL_fzL xs hf))
end
end Mp
/-! for, while. -/
namespace Mp
open PySem L2

def prL (pr : Nat → Bool) (it : I) : Nat → Bool := fun j => pr j || decide (lockOf it = some j)
theorem prL_le {pr : Nat → Bool} {it : I} {σ σ' : L2.St} (h : Kp (prL pr it) σ σ') : Kp pr σ σ' := ⟨h.1, fun i hi => h.2 i (by unfold prL; rw [hi]; rfl)⟩
theorem prL_lock {pr : Nat → Bool} {it : I} {σ σ' : L2.St} (h : Kp (prL pr it) σ σ') : ∀ i, lockOf it = some i → σ'[i]? = σ[i]? := fun i hi => h.2 i (by unfold prL; rw [decide_eq_true hi, Bool.or_true])
section
variable {X : Cx} {T : Tab} {W : WX} {C : Cfg} {pr : Nat → Bool} {ei et : Expr} {bs : List Stmt} {pos : Pos}
theorem held_of {G H G' H' : Hp} {F F' R : List Addr} (s : Step G H F G' H' F') (dj : ∀ a ∈ R, a ∉ F) : Held H R H' := fun a ha o q => s.keep a o q (dj a ha)
theorem s_for {it : I} {tg : Tg} {body : Ss} (hp : PassesOwn (model X.prog X.w) X.A X.env X.xe) (hc : X.calm = true) (hi : PI X et ei (tI T W it (dI C it))) (hg : PG X et (tG T (prL pr it) tg)) (hb : PSs X bs (tS T W (prL pr it) (dSs C body)))
    (hs : ∀ x, foldedSetIterable ei X.env x = pure x) : PS X (.For et ei bs [] pos) (tS T W pr (dS C (.for_ it tg body))) := by
  refine (ps_for hp hc hi hg hb hs).weak fun DD σ H ⟨G, ρ, F, P, h⟩ => ?_
  simp only [dS] at h
  refine ⟨G, ρ, F, P, h.then.imp (fun (ds, o) h J H1 ok => ?_) fun _ _ _ z => z⟩
  obtain ⟨G1, F1, R, F2, E, pm, re, wk, back⟩ := ok
  simp only at h E re wk back
  generalize hturn : (fun x r => match bindT tg x r with
      | none => SR.stuck
      | some r1 => dSs C body r1) = turn at h
  -- behind the loop
  have ndR := pm.nodup_iff.mp E.pre.nd
  obtain ⟨r1, r2, r3⟩ := List.nodup_append.mp ndR
  have dj : ∀ a ∈ R, a ∉ F2 := fun a ha hb => r3 a ha a hb rfl
  have gnR : ∀ a ∈ R, G1 a = none := fun a ha => E.pre.gn a (pm.mem_iff.mpr (List.mem_append_left _ ha))
  have trkR : Trk H1 R := fun a ha => E.env.trk a (pm.mem_iff.mpr (List.mem_append_left _ ha))
  have fin : ∀ {G' H' : Hp} {ρ' : Env} {σ' : L2.St} {Fv F' : List Addr}, Step G1 H1 F2 G' H' (Fv ++ F') → RpE T G' H' ρ' σ' F' → Kp (prL pr it) σ σ' → ∃ F4, Step G H F G' H' (Fv ++ F4) ∧ RpE T G' H' (unlockI it (now ρ o) ρ') σ' F4 := fun {G' H' ρ' σ' Fv F'} s re' k => by
    have m := s.more trkR gnR r1 dj
    have S := E.step.trans (m.perm pm.symm (.refl _))
    obtain ⟨a1, a2, a3⟩ := List.nodup_append.mp S.nd
    obtain ⟨b1, b2, b3⟩ := List.nodup_append.mp a2
    have nd2 : (R ++ F').Nodup := List.nodup_append.mpr ⟨a1, b2, fun a ha b hb => a3 a ha b (List.mem_append_right _ hb)⟩
    obtain ⟨F4, f1, f2, f3⟩ := back G' H' ρ' σ' F' re' s.g (held_of s dj) nd2 (prL_lock k)
    refine ⟨F4, S.less (List.nodup_append.mpr ⟨b1, f1, fun a ha b hb => ?_⟩) fun a ha => ?_, f3⟩
    · rcases List.mem_append.mp (f2 b hb) with z | z
      · exact fun e => a3 b z a (List.mem_append_left _ ha) e.symm
      · exact b3 a ha b z
    · rcases List.mem_append.mp ha with z | z
      · exact List.mem_append_right _ (List.mem_append_left _ z)
      · rcases List.mem_append.mp (f2 a z) with z | z
        · exact List.mem_append_left _ z
        · exact List.mem_append_right _ (List.mem_append_right _ z)
  refine ⟨fun i m σ' H' => m = ds.length - i ∧ i ≤ ds.length ∧ ∃ G' ρ' F', Step G1 H1 F2 G' H' F' ∧ RpE T G' H' ρ' σ' F' ∧ Kp (prL pr it) σ σ' ∧ PostS T W pr DD G H F σ ((loopF turn (ds.drop i) ρ').mapE (unlockI it (now ρ o))), ⟨ds.length, ?_⟩, ?_⟩
  · exact ⟨rfl, Nat.zero_le _, G1, _, F2, ⟨.refl _, E.step.h, fun _ _ q _ => q, fun a ha => .inl ha, fun _ _ q => .inl q, r2, fun a ha => E.pre.gn a (pm.mem_iff.mpr (List.mem_append_right _ ha))⟩, re, .refl, h⟩
  · rintro i m σ' H' ⟨rfl, hi', G', ρ', F', s, re', k, hq⟩
    have hd := held_of s dj
    by_cases hlt : i < ds.length
    · refine .inr ⟨wk.go i H' (s.g.trans s.h) hd hlt, fun σ3 H3 => ∃ G3 ρ3 F3, Step G1 H1 F2 G3 H3 F3 ∧ RpE T G3 H3 ρ3 σ3 F3 ∧ Kp (prL pr it) σ σ3 ∧ PostS T W pr DD G H F σ ((loopF turn (ds.drop (i + 1)) ρ3).mapE (unlockI it (now ρ o))), fun σ3 H3 hh => ⟨ds.length - (i + 1), by omega, rfl, hlt, hh⟩, fun x H2 y => ?_⟩
      obtain ⟨Gc, sy, rx⟩ := wk.yld i G' H' x H2 ds[i] s.g s.h hd y (List.getElem?_eq_getElem hlt)
      have m := sy.more (R := F') re'.trk s.gn s.nd (fun _ _ z => nomatch z)
      rw [List.append_nil] at m
      have s2 := s.trans m
      have re2 : RpE T Gc H2 ρ' σ' F' := re'.mono sy.g fun a ha q e => sy.keep a q e (fun z => nomatch z)
      rw [List.drop_eq_getElem_cons hlt] at hq
      have hq : PostS T W pr DD G H F σ ((match turn ds[i] ρ' with
        | .nx ρ' => loopF turn (ds.drop (i + 1)) ρ'
        | .ct ρ' => loopF turn (ds.drop (i + 1)) ρ'
        | .bk ρ' => .nx ρ'
        | r => r).mapE (unlockI it (now ρ o))) := hq
      cases eb : bindT tg ds[i] ρ' with
      | none =>
        have et' : turn ds[i] ρ' = .stuck := by rw [← hturn]; simp only [eb]
        rw [et'] at hq
        exact hq.elim
      | some ρ2 =>
        have et' : turn ds[i] ρ' = dSs C body ρ2 := by rw [← hturn]; simp only [eb]
        rw [et'] at hq
        refine ⟨Gc, ρ', F', ds[i], [], ρ2, s2.h, re2, s2.nd, rx, eb, fun σ3 F3 re3 nd3 sub3 k3 => ?_⟩
        have s3 : Step G1 H1 F2 Gc H2 F3 := s2.less nd3 sub3
        have kk := k.trans k3
        refine ⟨Gc, ρ2, F3, ⟨s3.h, re3, s3.nd, s3.gn⟩, ?_⟩
        cases ed : dSs C body ρ2 with
        | nx ρ4 =>
          rw [ed] at hq
          intro σ4 H4 ⟨G4, F4, s4, re4, k4⟩
          exact ⟨G4, ρ4, F4, s3.trans s4, re4, kk.trans k4, hq⟩
        | ct ρ4 =>
          rw [ed] at hq
          intro σ4 H4 ⟨G4, F4, s4, re4, k4⟩
          exact ⟨G4, ρ4, F4, s3.trans s4, re4, kk.trans k4, hq⟩
        | bk ρ4 =>
          rw [ed] at hq
          intro σ4 H4 ⟨G4, F4, s4, re4, k4⟩
          obtain ⟨F5, s5, re5⟩ := fin (Fv := []) (s3.trans s4) re4 (kk.trans k4)
          exact hq σ4 H4 ⟨G4, F5, s5, re5, prL_le (kk.trans k4)⟩
        | ret d ρ4 =>
          rw [ed] at hq
          intro v σ4 H4 ⟨G4, Fv, F4, s4, rv, re4, k4⟩
          obtain ⟨F5, s5, re5⟩ := fin (s3.trans s4) re4 (kk.trans k4)
          exact hq v σ4 H4 ⟨G4, Fv, F5, s5, rv, re5, prL_le (kk.trans k4)⟩
        | exc c x ρ4 =>
          rw [ed] at hq
          intro σ4 k4 H4 dd ⟨G4, F4, s4, re4, q⟩
          obtain ⟨F5, s5, re5⟩ := fin (Fv := []) (s3.trans s4) re4 (kk.trans k4)
          exact hq σ4 (prL_le (kk.trans k4)) H4 dd ⟨G4, F5, s5, re5, q⟩
        | stuck => rw [ed] at hq; exact hq.elim
    · have e : i = ds.length := by omega
      subst e
      rw [List.drop_length] at hq
      obtain ⟨F5, s5, re5⟩ := fin (Fv := []) s re' k
      exact .inl ⟨wk.stop H' (s.g.trans s.h) hd, hq σ' H' ⟨G', F5, s5, re5, prL_le k⟩⟩
/-- while: the fuel of the den -/
theorem s_whl {t : Mp.T} {body : Ss} {ec : Expr} (hp : PassesOwn (model X.prog X.w) X.A X.env X.xe) (hc : PT X ec (tB' T W (dT C t))) (hb : PSs X bs (tS T W pr (dSs C body))) : PS X (.While ec bs [] pos) (tS T W pr (dS C (.whl t body))) := by
  refine (ps_while hp hc hb).weak fun DD σ H ⟨G, ρ, F, P, h⟩ => ?_
  simp only [dS] at h
  refine ⟨fun m σ' H' => ∃ G' ρ' F', Step G H F G' H' F' ∧ RpE T G' H' ρ' σ' F' ∧ Kp pr σ σ' ∧ PostS T W pr DD G H F σ (loopW (dT C t) (dSs C body) m ρ'), ⟨C.fuel, G, ρ, F, P.step0, P.env, .refl, h⟩, ?_⟩
  rintro m σ' H' ⟨G', ρ', F', s, re, k, hq⟩
  cases m with
  | zero => exact hq.elim
  | succ m =>
    have hq : PostS T W pr DD G H F σ ((dT C t ρ').then fun (b, o) => match b with
      | false => .nx (now ρ' o)
      | true => match dSs C body (now ρ' o) with
        | .nx ρ' => loopW (dT C t) (dSs C body) m ρ'
        | .ct ρ' => loopW (dT C t) (dSs C body) m ρ'
        | .bk ρ' => .nx ρ'
        | r => r) := hq
    have hx : ∀ c x r, Xi T W G H F σ' c x r → Xi T W G' H' F' σ' c x r := fun c x r z => Xi.mono s c x r z
    have hq2 : Post (dT C t ρ') (fun (b, o) => PostS T W pr DD G H F σ (match b with
      | false => SR.nx (now ρ' o)
      | true => match dSs C body (now ρ' o) with
        | .nx ρ' => loopW (dT C t) (dSs C body) m ρ'
        | .ct ρ' => loopW (dT C t) (dSs C body) m ρ'
        | .bk ρ' => .nx ρ'
        | r => r)) (fun c x r => Xi T W G H F σ' c x r) := by
      cases et : dT C t ρ' with
      | ok q => rw [et] at hq; exact hq
      | exc c x r => rw [et] at hq; exact hq σ' k
      | stuck => rw [et] at hq; exact hq
    refine ⟨G', ρ', F', ⟨s.h, re, s.nd, s.gn⟩, hq2.imp (fun (b, o) hq H1 ⟨G1, F1, E⟩ => ?_) hx⟩
    have s1 := s.trans E.step
    cases b with
    | false =>
      refine cast (if_neg Bool.false_ne_true).symm ?_
      exact hq σ' H1 ⟨G1, F1, s1, E.env, k⟩
    | true =>
      refine cast (if_pos rfl).symm ?_
      refine ⟨fun σ3 H3 => ∃ G3 ρ3 F3, Step G H F G3 H3 F3 ∧ RpE T G3 H3 ρ3 σ3 F3 ∧ Kp pr σ σ3 ∧ PostS T W pr DD G H F σ (loopW (dT C t) (dSs C body) m ρ3), fun σ3 H3 hh => ⟨m, Nat.lt_succ_self _, hh⟩, ?_⟩
      simp only at hq
      refine ⟨G1, now ρ' o, F1, ⟨s1.h, E.env, s1.nd, s1.gn⟩, ?_⟩
      cases ed : dSs C body (now ρ' o) with
      | nx ρ4 =>
        rw [ed] at hq
        intro σ4 H4 ⟨G4, F4, s4, re4, k4⟩
        exact ⟨G4, ρ4, F4, s1.trans s4, re4, k.trans k4, hq⟩
      | ct ρ4 =>
        rw [ed] at hq
        intro σ4 H4 ⟨G4, F4, s4, re4, k4⟩
        exact ⟨G4, ρ4, F4, s1.trans s4, re4, k.trans k4, hq⟩
      | bk ρ4 =>
        rw [ed] at hq
        exact fun σ4 H4 q => hq σ4 H4 (q.after s1 k)
      | ret d ρ4 =>
        rw [ed] at hq
        exact PostS.mono (r := .ret d ρ4) s1 k hq
      | exc c x ρ4 =>
        rw [ed] at hq
        exact PostS.mono (r := .exc c x ρ4) s1 k hq
      | stuck => rw [ed] at hq; exact hq.elim
end
end Mp
/-! List comprehensions. -/
namespace Mp
open PySem L2

section
variable {T : Tab} {W : WX} {G G' H H' : Hp} {ρ : Env} {σ : L2.St} {F F' : List Addr}
theorem Ev.pure {Fv : List Addr} (E : Ev T G H F ρ σ none G' H' Fv F') : Step G H [] G' H' Fv := by
  obtain ⟨xh, ef⟩ := E.calm rfl
  subst ef
  obtain ⟨n1, n2, n3⟩ := List.nodup_append.mp E.step.nd
  refine ⟨E.step.g, E.step.h, fun a o q _ => xh a o q, fun a ha => ?_, fun a o q => ?_, n1, fun a ha => E.step.gn a (List.mem_append_left _ ha)⟩
  · rcases E.step.sub a (List.mem_append_left _ ha) with z | z
    · exact absurd rfl (n3 a ha a z)
    · exact .inr z
  · rcases E.step.gsub a o q with z | z | z
    · exact .inl z
    · rw [E.step.gn a (List.mem_append_right _ z)] at q; cases q
    · exact .inr (.inr z)
theorem wipe_get {i : Nat} : ∀ {own : List Nat} {σ : L2.St}, (L2.wipe σ own)[i]? = if i ∈ own ∧ i < σ.length then some none else σ[i]?
  | [], σ => by simp [L2.wipe]
  | v :: vs, σ => by
    unfold L2.wipe
    rw [List.getElem?_set, wipe_get]
    by_cases h : v = i
    · subst h
      rw [if_pos rfl, wipe_length]
      by_cases hl : v < σ.length
      · rw [if_pos hl, if_pos ⟨List.mem_cons_self, hl⟩]
      · rw [if_neg hl, if_neg (fun z => hl z.2), List.getElem?_eq_none (by omega)]
    · rw [if_neg h]
      have e : i ∈ v :: vs ↔ i ∈ vs := ⟨fun z => (List.mem_cons.mp z).elim (fun e => absurd e.symm h) id, List.mem_cons_of_mem _⟩
      simp only [e]
theorem wipe_eq {own : List Nat} {σ σ2 : L2.St} (k : Kp (fun j => !own.contains j) (L2.wipe σ own) σ2) : L2.wipe σ2 own = L2.wipe σ own := by
  have hl : σ2.length = σ.length := k.1.trans (wipe_length σ own)
  refine List.ext_getElem? fun j => ?_
  rw [wipe_get, wipe_get, hl]
  by_cases h : j ∈ own
  · by_cases h2 : j < σ.length
    · rw [if_pos ⟨h, h2⟩, if_pos ⟨h, h2⟩]
    · rw [if_neg (fun z => h2 z.2), if_neg (fun z => h2 z.2), List.getElem?_eq_none (by omega), List.getElem?_eq_none (by omega)]
  · rw [if_neg (fun z => h z.1), if_neg (fun z => h z.1), k.2 j (by simpa using h), wipe_get, if_neg (fun z => h z.1)]
/-- a slot is forgotten -/
theorem RpE.forget {i : Nat} (re : RpE T G H ρ σ F) (nd : F.Nodup) : ∃ F', F'.Nodup ∧ (∀ a ∈ F', a ∈ F) ∧ RpE T G H (ρ.set i .gone) (σ.set i Option.none) F' := by
  by_cases hi : i < ρ.length
  · obtain ⟨s, A, R, es, pm, rs, put⟩ := re.focus hi
    obtain ⟨F', pm', re'⟩ := put (F1' := []) (d' := .gone) (s' := Option.none) (.refl _) (fun a ha o q => q) (.inl ⟨rfl, rfl⟩)
    rw [List.nil_append] at pm'
    exact ⟨F', pm'.nodup_iff.mpr (List.nodup_append.mp (pm.nodup_iff.mp nd)).2.1, fun a ha => pm.mem_iff.mpr (List.mem_append_right _ (pm'.mem_iff.mp ha)), re'⟩
  · rw [List.set_eq_of_length_le (by omega), List.set_eq_of_length_le (by rw [re.length]; omega)]
    exact ⟨F, nd, fun a ha => ha, re⟩
theorem RpE.wipe (re : RpE T G H ρ σ F) (nd : F.Nodup) : ∀ own : List Nat, ∃ F', F'.Nodup ∧ (∀ a ∈ F', a ∈ F) ∧ RpE T G H (Mp.wipe own ρ) (L2.wipe σ own) F'
  | [] => ⟨F, nd, fun a ha => ha, re⟩
  | i :: r => by
    obtain ⟨F1, n1, s1, re1⟩ := RpE.wipe re nd r
    obtain ⟨F2, n2, s2, re2⟩ := re1.forget (i := i) n1
    exact ⟨F2, n2, fun a ha => s1 a (s2 a ha), re2⟩
/-- shared slots are forgotten: nothing is lost -/
theorem RpE.forgetS {i : Nat} (re : RpE T G H ρ σ F) (h : slot ρ i = .gone ∨ sh (slot ρ i) = true) : ∃ F', F'.Perm F ∧ RpE T G H (ρ.set i .gone) (σ.set i Option.none) F' := by
  by_cases hi : i < ρ.length
  · obtain ⟨s, A, R, es, pm, rs, put⟩ := re.focus hi
    obtain ⟨F', pm', re'⟩ := put (F1' := []) (d' := .gone) (s' := Option.none) (.refl _) (fun a ha o q => q) (.inl ⟨rfl, rfl⟩)
    have hA : A = [] := by
      rcases rs with ⟨_, e⟩ | ⟨v, _, r⟩
      · exact e
      · rcases h with h | h
        · rw [h] at r; exact r
        · exact Rp.sh_nil _ _ _ h r
    subst hA
    exact ⟨F', pm'.trans pm.symm, re'⟩
  · rw [List.set_eq_of_length_le (by omega), List.set_eq_of_length_le (by rw [re.length]; omega)]
    exact ⟨F, .refl _, re⟩
theorem slot_wipe {i : Nat} : ∀ {own : List Nat}, slot (Mp.wipe own ρ) i = .gone ∨ slot (Mp.wipe own ρ) i = slot ρ i
  | [] => .inr rfl
  | j :: r => by
    unfold Mp.wipe
    by_cases h : j = i
    · subst h; exact .inl slot_set_gone
    · rw [slot_set_ne h]; exact slot_wipe
theorem ownOk_at {own : List Nat} {i : Nat} (h : ownOk own ρ = true) (hi : i ∈ own) : slot ρ i = .gone ∨ sh (slot ρ i) = true := by
  have := List.all_eq_true.mp h i hi
  cases e : slot ρ i <;> rw [e] at this <;> first | exact .inl rfl | exact .inr this
theorem RpE.wipeS (re : RpE T G H ρ σ F) : ∀ own : List Nat, ownOk own ρ = true → ∃ F', F'.Perm F ∧ RpE T G H (Mp.wipe own ρ) (L2.wipe σ own) F'
  | [], _ => ⟨F, .refl _, re⟩
  | i :: r, h => by
    have h' : ownOk r ρ = true := by
      unfold ownOk at h ⊢
      rw [List.all_cons, Bool.and_eq_true] at h
      exact h.2
    obtain ⟨F1, p1, re1⟩ := RpE.wipeS re r h'
    obtain ⟨F2, p2, re2⟩ := re1.forgetS (i := i) (by
      rcases slot_wipe (own := r) (ρ := ρ) (i := i) with e | e
      · exact .inl e
      · rw [e]; exact ownOk_at h List.mem_cons_self)
    exact ⟨F2, p2.trans p1, re2⟩
/-- and they come back -/
theorem RpE.unwipe {G1 H1 : Hp} {ρ0 : Env} {σ : L2.St} {F0 : List Addr} (re0 : RpE T G1 H1 ρ0 σ F0) (hg : Ext G1 G) : ∀ (own : List Nat) {r : Env} {F : List Addr}, own.Nodup → ownOk own ρ0 = true → RpE T G H r (L2.wipe σ own) F → ∃ F', (F'.Nodup ∨ ¬ F.Nodup) ∧ (∀ a ∈ F', a ∈ F) ∧ RpE T G H (Mp.unwipe own ρ0 r) σ F'
  | [], r, F, _, _, re => ⟨F, Classical.em _, fun a ha => ha, re⟩
  | i :: own, r, F, nd, ok, re => by
    obtain ⟨h1, h2⟩ := List.nodup_cons.mp nd
    have ok' : ownOk own ρ0 = true := by
      unfold ownOk at ok ⊢
      rw [List.all_cons, Bool.and_eq_true] at ok
      exact ok.2
    have re : RpE T G H r ((L2.wipe σ own).set i Option.none) F := re
    have key : ∃ F', (F'.Nodup ∨ ¬ F.Nodup) ∧ (∀ a ∈ F', a ∈ F) ∧ RpE T G H (r.set i (slot ρ0 i)) (L2.wipe σ own) F' := by
      by_cases hi : i < r.length
      · obtain ⟨s, A, R, es, pm, rs, put⟩ := re.focus hi
        have hl := re.length
        rw [List.length_set, wipe_length] at hl
        have hl0 := re0.length
        have hi0 : i < ρ0.length := by omega
        obtain ⟨s0, A0, R0, es0, pm0, rs0, _⟩ := re0.focus hi0
        have hA0 : A0 = [] ∧ RpS T G H (slot ρ0 i) s0 [] := by
          rcases rs0 with ⟨e1, e2⟩ | ⟨v, e1, rr⟩
          · exact ⟨e2, .inl ⟨e1, rfl⟩⟩
          · rcases ownOk_at ok List.mem_cons_self with h | h
            · rw [h] at rr ⊢
              exact ⟨rr, .inl ⟨rfl, rfl⟩⟩
            · have := Rp.sh_nil _ _ _ h rr
              subst this
              exact ⟨rfl, .inr ⟨v, e1, Rp.sh h rr hg⟩⟩
        obtain ⟨F', pm', re'⟩ := put (F1' := []) (d' := slot ρ0 i) (s' := s0) (.refl _) (fun a ha o q => q) hA0.2
        rw [List.nil_append] at pm'
        have e1 : ((L2.wipe σ own).set i Option.none).set i s0 = L2.wipe σ own := by
          rw [List.set_set]
          refine set_same ?_
          rw [wipe_get, if_neg (fun z => h1 z.1)]
          exact es0
        rw [e1] at re'
        refine ⟨F', ?_, fun a ha => pm.mem_iff.mpr (List.mem_append_right _ (pm'.mem_iff.mp ha)), re'⟩
        by_cases hn : F.Nodup
        · exact .inl (pm'.nodup_iff.mpr (List.nodup_append.mp (pm.nodup_iff.mp hn)).2.1)
        · exact .inr hn
      · have hl := re.length
        rw [List.length_set, wipe_length] at hl
        rw [List.set_eq_of_length_le (by omega)]
        rw [List.set_eq_of_length_le (by rw [wipe_length]; omega)] at re
        exact ⟨F, Classical.em _, fun a ha => ha, re⟩
    obtain ⟨F1, n1, s1, re1⟩ := key
    obtain ⟨F2, n2, s2, re2⟩ := RpE.unwipe re0 hg own h2 ok' re1
    refine ⟨F2, ?_, fun a ha => s1 a (s2 a ha), re2⟩
    rcases n2 with n2 | n2
    · exact .inl n2
    · rcases n1 with n1 | n1
      · exact absurd n1 n2
      · exact .inr n1
/-- a turn's end: M what is held, the slots of the block forgotten -/
theorem turn_end {G1 H1 Gc H2 G4 H4 : Hp} {F2 M F3 F5 Fy : List Addr} {r r1 : Env} {σ σ2 : L2.St} {own : List Nat} {o : Option Env} (S : Step G1 H1 F2 G' H' (M ++ F')) (re : RpE T G' H' r (L2.wipe σ own) F') (trkM : Trk H' M)
    (sy : Step G' H' [] Gc H2 []) (n3 : F3.Nodup) (sub3 : ∀ a ∈ F3, a ∈ F') (E : Ev T Gc H2 F3 r1 σ2 o G4 H4 Fy F5) (k : L2.wipe σ2 own = L2.wipe σ own) :
    ∃ F6, Step G1 H1 F2 G4 H4 (M ++ (Fy ++ F6)) ∧ RpE T G4 H4 (now r (back own o)) (L2.wipe σ own) F6 ∧ Held H' M H4 ∧ Ext G' G4 ∧ (o = none → Ext H' H4 ∧ F6 = F') := by
  obtain ⟨m1, m2, m3⟩ := List.nodup_append.mp S.nd
  have kM : Held H' M H2 := fun a ha q e => sy.keep a q e (fun z => nomatch z)
  have dj : ∀ a ∈ M, a ∉ F3 := fun a ha hb => m3 a ha a (sub3 a hb) rfl
  have kM4 : Held H' M H4 := fun a ha q e => E.step.keep a q (kM a ha q e) (dj a ha)
  cases o with
  | none =>
    have p := sy.trans E.pure
    have m := p.more (R := M ++ F') (fun a ha => by
      rcases List.mem_append.mp ha with z | z
      · exact trkM a z
      · exact re.trk a z) S.gn S.nd (fun _ _ z => nomatch z)
    rw [List.append_nil] at m
    have S2 := S.trans m
    refine ⟨F', S2.perm (.refl _) ?_, re.mono p.g fun a ha q e => p.keep a q e (fun z => nomatch z), kM4, p.g, fun _ => ⟨fun a q e => p.keep a q e (fun z => nomatch z), rfl⟩⟩
    rw [List.append_assoc]
    exact List.perm_append_comm.append_left M
  | some r5 =>
    have m := sy.more (R := M ++ F') (fun a ha => by
      rcases List.mem_append.mp ha with z | z
      · exact trkM a z
      · exact re.trk a z) S.gn S.nd (fun _ _ z => nomatch z)
    rw [List.append_nil] at m
    have S2 := (S.trans m).less (F2 := M ++ F3) (List.nodup_append.mpr ⟨m1, n3, fun a ha b hb => m3 a ha b (sub3 b hb)⟩) fun a ha => by
      rcases List.mem_append.mp ha with z | z
      · exact List.mem_append_left _ z
      · exact List.mem_append_right _ (sub3 a z)
    have trkM2 : Trk H2 M := fun a ha => by
      obtain ⟨q, e⟩ := trkM a ha
      exact ⟨q, kM a ha q e⟩
    have mm := E.step.more trkM2 (fun a ha => S2.gn a (List.mem_append_left _ ha)) m1 dj
    have S3 := S2.trans mm
    obtain ⟨a1, a2, a3⟩ := List.nodup_append.mp S3.nd
    obtain ⟨b1, b2, b3⟩ := List.nodup_append.mp a2
    obtain ⟨F6, c1, c2, c3⟩ := E.env.wipe b2 own
    rw [k] at c3
    refine ⟨F6, S3.less (List.nodup_append.mpr ⟨a1, List.nodup_append.mpr ⟨b1, c1, fun a ha b hb => b3 a ha b (c2 b hb)⟩, fun a ha b hb => ?_⟩) fun a ha => ?_, c3, kM4, sy.g.trans E.step.g, fun z => nomatch z⟩
    · rcases List.mem_append.mp hb with z | z
      · exact a3 a ha b (List.mem_append_left _ z)
      · exact a3 a ha b (List.mem_append_right _ (c2 b z))
    · rcases List.mem_append.mp ha with z | z
      · exact List.mem_append_left _ z
      · rcases List.mem_append.mp z with z | z
        · exact List.mem_append_right _ (List.mem_append_left _ z)
        · exact List.mem_append_right _ (List.mem_append_right _ (c2 a z))
end
end Mp
/-! List comprehensions: the rule. -/
namespace Mp
open PySem L2

/-- no wish: nothing is raised in a comprehension's block -/
def WF : WX := fun _ _ _ _ => False
theorem compL_cons {turn : D → Env → R (List D × Option Env)} {x : D} {xs : List D} {ρ : Env} {o o3 : Option Env} {ys : List D} (e : compL turn (x :: xs) ρ o = .ok (ys, o3)) : ∃ y o1 ys', turn x (now ρ o) = .ok (y, o1) ∧ compL turn xs ρ (orE o1 o) = .ok (ys', o3) ∧ ys = y ++ ys' := by
  have e : ((turn x (now ρ o)).calm.bind fun (y, o1) => (compL turn xs ρ (orE o1 o)).bind fun (ys, o2) => .ok (y ++ ys, o2)) = .ok (ys, o3) := e
  cases e1 : turn x (now ρ o) with
  | ok q =>
    obtain ⟨y, o1⟩ := q
    rw [e1] at e
    have e : ((compL turn xs ρ (orE o1 o)).bind fun (ys, o2) => R.ok (y ++ ys, o2)) = .ok (ys, o3) := e
    cases e2 : compL turn xs ρ (orE o1 o) with
    | ok q =>
      obtain ⟨ys', o2⟩ := q
      rw [e2] at e
      cases e
      exact ⟨y, o1, ys', rfl, e2, rfl⟩
    | exc c x r => rw [e2] at e; cases e
    | stuck => rw [e2] at e; cases e
  | exc c x r => rw [e1] at e; cases e
  | stuck => rw [e1] at e; cases e
theorem compL_exc {turn : D → Env → R (List D × Option Env)} : ∀ {xs : List D} {ρ : Env} {o : Option Env} {c : Nat} {x : D} {r : Env}, compL turn xs ρ o ≠ .exc c x r
  | [], ρ, o, c, x, r, e => by cases e
  | y :: xs, ρ, o, c, x, r, e => by
    have e : ((turn y (now ρ o)).calm.bind fun (y, o1) => (compL turn xs ρ (orE o1 o)).bind fun (ys, o2) => .ok (y ++ ys, o2)) = .exc c x r := e
    cases e1 : turn y (now ρ o) with
    | ok q =>
      obtain ⟨z, o1⟩ := q
      rw [e1] at e
      have e : ((compL turn xs ρ (orE o1 o)).bind fun (ys, o2) => R.ok (z ++ ys, o2)) = .exc c x r := e
      cases e2 : compL turn xs ρ (orE o1 o) with
      | ok q => rw [e2] at e; cases e
      | exc c' x' r' => exact compL_exc e2
      | stuck => rw [e2] at e; cases e
    | exc c' x' r' => rw [e1] at e; cases e
    | stuck => rw [e1] at e; cases e
section
variable {X : Cx} {T : Tab} {W : WX} {C : Cfg} {σ : L2.St} {H : Hp} {Q : VK}
theorem orE_back (own : List Nat) (o1 o : Option Env) (ρ : Env) : now ρ (orE (back own o1) o) = now (now ρ o) (back own o1) := by cases o1 <;> rfl
theorem lc_den {it : I} {tg : Tg} {own : List Nat} {cs : Cs} {elt : E} (hnd : own.Nodup) (h : tE T W (dE C (.lc it tg own cs elt)) σ H Q) :
    tLc (tI T W it (dI C it)) (tG T (fun j => !own.contains j) tg) (tB' T WF (dCs C cs)) (tE T WF (dE C elt)) own σ H Q := by
  obtain ⟨G, ρ, F, P, h⟩ := h
  simp only [dE] at h
  refine ⟨G, ρ, F, P, h.bind.imp (fun (ds, o) h J H1 ok Dl hD => ?_) fun _ _ _ z => z⟩
  obtain ⟨G1, F1, Rr, F2, E, pm, re, wk, back'⟩ := ok
  simp only at h E re wk back'
  cases hw : ownOk own (lockI it (now ρ o)) with
  | false => simp only [hw] at h; exact h.elim
  | true =>
    simp only [hw] at h
    generalize hturn : (fun x r => match bindT tg x r with
      | none => R.stuck
      | some r1 => (dCs C cs r1).bind fun (b, o1) => match b with
        | false => R.ok ([], back own o1)
        | true => (dE C elt (now r1 o1)).bind fun (y, o2) => R.ok ([y], back own (orE o2 o1))) = turn at h
    generalize hρw : Mp.wipe own (lockI it (now ρ o)) = ρw at h
    cases ec : compL turn ds ρw none with
    | exc c x r => exact absurd ec compL_exc
    | stuck => rw [ec] at h; exact h.elim
    | ok q =>
      obtain ⟨ys, o3⟩ := q
      rw [ec] at h
      have h : Post (if ys.length ≤ line then R.ok (D.lst true ys, compO it own (now ρ o) o o3) else R.stuck) (fun (d, o') => ∀ v H', OkE T G H F ρ σ o' d v H' → Q v H') (Xi T W G H F σ) := h
      split at h
      rotate_left
      · exact h.elim
      rename_i hlen
      have ndR := pm.nodup_iff.mp E.pre.nd
      obtain ⟨r1, r2, r3⟩ := List.nodup_append.mp ndR
      have dj : ∀ a ∈ Rr, a ∉ F2 := fun a ha hb => r3 a ha a hb rfl
      have gnR : ∀ a ∈ Rr, G1 a = none := fun a ha => E.pre.gn a (pm.mem_iff.mpr (List.mem_append_left _ ha))
      have gn2 : ∀ a ∈ F2, G1 a = none := fun a ha => E.pre.gn a (pm.mem_iff.mpr (List.mem_append_right _ ha))
      have trkR : Trk H1 Rr := fun a ha => E.env.trk a (pm.mem_iff.mpr (List.mem_append_left _ ha))
      obtain ⟨Fw, pw, rew⟩ := re.wipeS own hw
      rw [hρw] at rew
      refine ⟨fun i m H' => m = ds.length - i ∧ i ≤ ds.length ∧ ∃ G' F' oacc acc accD Facc ys2, Step G1 H1 F2 G' H' ((Dl :: Facc) ++ F') ∧ RpE T G' H' (now ρw oacc) (L2.wipe σ own) F' ∧ H' Dl = some (.lst acc) ∧ RpL T G' H' accD acc Facc ∧
        (oacc = none → Ext H1 H' ∧ F' = Fw) ∧ compL turn (ds.drop i) ρw oacc = .ok (ys2, o3) ∧ ys = accD ++ ys2, ⟨ds.length, ?_⟩, ?_⟩
      · refine ⟨rfl, Nat.zero_le _, G1, Fw, none, [], [], [], ys, ?_, rew.mono (.refl _) fun a ha q e => Ext.new hD a q e, upd_same, ⟨rfl, rfl⟩, fun _ => ⟨.new hD, rfl⟩, ec, rfl⟩
        have s0 : Step G1 H1 [] G1 (upd H1 Dl (.lst [])) [Dl] := .newO E.step.h hD
        have m := s0.more (R := F2) (fun a ha => re.trk a ha) gn2 r2 (fun _ _ z => nomatch z)
        rw [List.append_nil] at m
        refine m.perm (.refl _) ?_
        exact List.perm_append_comm.trans (pw.symm.append_left [Dl])
      · rintro i m H' ⟨rfl, hi, G', F', oacc, acc, accD, Facc, ys2, S, re', hDl, rl, calm', ec', eys⟩
        have hd : Held H1 Rr H' := held_of S dj
        by_cases hlt : i < ds.length
        · rw [List.drop_eq_getElem_cons hlt] at ec'
          obtain ⟨y, o1, ys', et, ec2, ey⟩ := compL_cons ec'
          refine .inr ⟨wk.go i H' (S.g.trans S.h) hd hlt, fun H3 => ∃ G' F' oacc acc accD Facc ys2, Step G1 H1 F2 G' H3 ((Dl :: Facc) ++ F') ∧ RpE T G' H3 (now ρw oacc) (L2.wipe σ own) F' ∧ H3 Dl = some (.lst acc) ∧ RpL T G' H3 accD acc Facc ∧
            (oacc = none → Ext H1 H3 ∧ F' = Fw) ∧ compL turn (ds.drop (i + 1)) ρw oacc = .ok (ys2, o3) ∧ ys = accD ++ ys2, fun H3 hh => ⟨ds.length - (i + 1), by omega, rfl, hlt, hh⟩, fun x H2 yl => ?_⟩
          obtain ⟨Gc, sy, rx⟩ := wk.yld i G' H' x H2 ds[i] S.g S.h hd yl (List.getElem?_eq_getElem hlt)
          obtain ⟨m1, m2, m3⟩ := List.nodup_append.mp S.nd
          have re2 : RpE T Gc H2 (now ρw oacc) (L2.wipe σ own) F' := re'.mono sy.g fun a ha q e => sy.keep a q e (fun z => nomatch z)
          have et' : (match bindT tg ds[i] (now ρw oacc) with
            | none => R.stuck
            | some r1 => (dCs C cs r1).bind fun (b, o1) => match b with
              | false => R.ok ([], back own o1)
              | true => (dE C elt (now r1 o1)).bind fun (y, o2) => R.ok ([y], back own (orE o2 o1))) = .ok (y, o1) := by rw [← hturn] at et; exact et
          cases eb : bindT tg ds[i] (now ρw oacc) with
          | none => rw [eb] at et'; cases et'
          | some q1 =>
            rw [eb] at et'
            simp only at et'
            refine ⟨Gc, now ρw oacc, F', ds[i], [], q1, sy.h, re2, m2, rx, eb, fun σ2 F3 re3 nd3 sub3 k3 => ⟨wipe_eq k3, ?_⟩⟩
            have keq := wipe_eq k3
            have P3 : Pre T Gc H2 q1 σ2 F3 := ⟨sy.h, re3, nd3, fun a ha => by
              have g0 := S.gn a (List.mem_append_right _ (sub3 a ha))
              cases q : Gc a with
              | none => rfl
              | some u =>
                rcases sy.gsub a u q with z | z | z
                · rw [g0] at z; cases z
                · exact absurd z (List.not_mem_nil)
                · obtain ⟨u', e'⟩ := re'.trk a (sub3 a ha)
                  rw [e'] at z; cases z⟩
            have trkM : Trk H' (Dl :: Facc) := fun a ha => by
              rcases List.mem_cons.mp ha with z | z
              · rw [z]; exact ⟨_, hDl⟩
              · exact RpL.trk _ _ _ rl a z
            -- the clause's test
            cases ecs : dCs C cs q1 with
            | exc c x r => rw [ecs] at et'; cases et'
            | stuck => rw [ecs] at et'; cases et'
            | ok qb =>
              obtain ⟨b, ob⟩ := qb
              rw [ecs] at et'
              have et' : (match b with
                | false => R.ok ([], back own ob)
                | true => (dE C elt (now q1 ob)).bind fun (y, o2) => R.ok ([y], back own (orE o2 ob))) = .ok (y, o1) := et'
              refine ⟨Gc, q1, F3, P3, ?_⟩
              rw [ecs]
              rintro H3 ⟨G3, F4, E3⟩
              cases b with
              | false =>
                refine cast (if_neg Bool.false_ne_true).symm ?_
                cases et'
                obtain ⟨F6, S6, re6, hM, exg, cm⟩ := turn_end S re' trkM sy nd3 sub3 E3 keq
                rw [List.nil_append] at S6
                refine ⟨G3, F6, orE (back own ob) oacc, acc, accD, Facc, ys', S6, by rw [orE_back]; exact re6, hM Dl List.mem_cons_self _ hDl, RpL.mono exg _ _ _ rl fun a ha q e => hM a (List.mem_cons_of_mem _ ha) q e, fun z => ?_, ec2, by rw [eys, ey]; rfl⟩
                cases ob with
                | some r => cases z
                | none =>
                  have e1 : oacc = none := z
                  obtain ⟨c1, c2⟩ := calm' e1
                  obtain ⟨c3, c4⟩ := cm rfl
                  exact ⟨c1.trans c3, c4.trans c2⟩
              | true =>
                refine cast (if_pos rfl).symm ?_
                cases ee : dE C elt (now q1 ob) with
                | exc c x r => simp only [ee] at et'; cases et'
                | stuck => simp only [ee] at et'; cases et'
                | ok qe =>
                  obtain ⟨z, oe⟩ := qe
                  simp only [ee] at et'
                  have et' : R.ok ([z], back own (orE oe ob)) = R.ok (y, o1) := et'
                  cases et'
                  refine ⟨G3, now q1 ob, F4, E3.pre, ?_⟩
                  rw [ee]
                  rintro w H4 ⟨G4, Fy, F5, E4, rz⟩
                  have E34 := E3.trans (fun _ z => nomatch z) E4
                  rw [List.nil_append] at E34
                  obtain ⟨F6, S6, re6, hM, exg, cm⟩ := turn_end S re' trkM sy nd3 sub3 E34 keq
                  have hD4 : H4 Dl = some (.lst acc) := hM Dl List.mem_cons_self _ hDl
                  have rl4 : RpL T G4 H4 accD acc Facc := RpL.mono exg _ _ _ rl fun a ha q e => hM a (List.mem_cons_of_mem _ ha) q e
                  obtain ⟨a1, a2, a3⟩ := List.nodup_append.mp S6.nd
                  obtain ⟨a4, a5⟩ := List.nodup_cons.mp a1
                  obtain ⟨b1, b2, b3⟩ := List.nodup_append.mp a2
                  have nDy : Dl ∉ Fy := fun z => a3 Dl List.mem_cons_self Dl (List.mem_append_left _ z) rfl
                  have nD6 : Dl ∉ F6 := fun z => a3 Dl List.mem_cons_self Dl (List.mem_append_right _ z) rfl
                  have ll : acc.length < sizeLine := by
                    have e1 := congrArg List.length eys
                    rw [ey, List.length_append, List.length_append, List.length_singleton] at e1
                    rw [rl.length, ← line_eq]
                    omega
                  refine ⟨acc, hD4, ll, G4, F6, orE (back own (orE oe ob)) oacc, acc ++ [w], accD ++ [z], Facc ++ Fy, ys', ?_, ?_, upd_same, RpL.append (rl4.upd a4) (.one (rz.upd nDy)), fun zz => ?_, ec2, by rw [eys, ey, List.append_assoc]⟩
                  · have S7 := S6.trans (Step.write (o := .lst (acc ++ [w])) S6.h S6.gn hD4 (List.mem_append_left _ List.mem_cons_self) S6.nd (fun a ha => ha))
                    refine S7.perm (.refl _) ?_
                    rw [List.cons_append, List.cons_append, List.append_assoc]
                  · rw [orE_back]
                    exact re6.mono (.refl _) fun a ha q e => by rw [upd_ne (fun z => nD6 (by rw [← z]; exact ha))]; exact e
                  · cases hob : orE oe ob with
                    | some r => rw [hob] at zz; cases zz
                    | none =>
                      rw [hob] at zz
                      have e1 : oacc = none := zz
                      obtain ⟨c1, c2⟩ := calm' e1
                      obtain ⟨c3, c4⟩ := cm hob
                      refine ⟨fun a q e => ?_, c4.trans c2⟩
                      have ne : a ≠ Dl := fun z => by rw [z, hD] at e; cases e
                      rw [upd_ne ne]
                      exact c3 a q (c1 a q e)
        · have e : i = ds.length := by omega
          subst e
          rw [List.drop_length] at ec'
          cases ec'
          rw [List.append_nil] at eys
          subst eys
          refine .inl ⟨wk.stop H' (S.g.trans S.h) hd, h (.ref Dl) H' ?_⟩
          have rD : Rp T G' H' (.lst true ys) (.ref Dl) (Dl :: Facc) := ⟨Dl, acc, Facc, rfl, hDl, rl, rfl⟩
          have m := S.more (R := Rr) trkR gnR r1 dj
          have S2 := E.step.trans (m.perm pm.symm (.refl _))
          obtain ⟨n1, n2, n3⟩ := List.nodup_append.mp S2.nd
          obtain ⟨k1, k2, k3⟩ := List.nodup_append.mp n2
          cases o3 with
          | none =>
            obtain ⟨c1, c2⟩ := calm' rfl
            subst c2
            -- the slots as they were
            have ppm : (Rr ++ F').Perm F1 := (pw.append_left Rr).trans pm.symm
            refine ⟨G', Dl :: Facc, F1, ⟨?_, E.env.mono S.g fun a ha q e => c1 a q e, fun e0 => ?_⟩, rD⟩
            · refine S2.perm (.refl _) ?_
              have e1 : (Rr ++ ((Dl :: Facc) ++ F')).Perm ((Dl :: Facc) ++ (Rr ++ F')) := by
                rw [← List.append_assoc, ← List.append_assoc]
                exact List.perm_append_comm.append_right F'
              exact e1.trans (ppm.append_left _)
            · obtain ⟨x1, x2⟩ := E.calm e0
              exact ⟨x1.trans c1, x2⟩
          | some r =>
            obtain ⟨F7, n7, s7, re7⟩ := RpE.unwipe re S.g own hnd hw re'
            have n7 : F7.Nodup := n7.resolve_right fun z => z k2
            have nd8 : (Rr ++ F7).Nodup := List.nodup_append.mpr ⟨n1, n7, fun a ha b hb => n3 a ha b (List.mem_append_right _ (s7 b hb))⟩
            obtain ⟨F8, n8, s8, re8⟩ := back' G' H' _ σ F7 re7 S.g hd nd8 (fun _ _ => rfl)
            refine ⟨G', Dl :: Facc, F8, ⟨S2.less (List.nodup_append.mpr ⟨k1, n8, fun a ha b hb => ?_⟩) fun a ha => ?_, re8, fun z => nomatch z⟩, rD⟩
            · rcases List.mem_append.mp (s8 b hb) with z | z
              · exact fun e => n3 b z a (List.mem_append_left _ ha) e.symm
              · exact k3 a ha b (s7 b z)
            · rcases List.mem_append.mp ha with z | z
              · exact List.mem_append_right _ (List.mem_append_left _ z)
              · rcases List.mem_append.mp (s8 a z) with z | z
                · exact List.mem_append_left _ z
                · exact List.mem_append_right _ (List.mem_append_right _ (s7 a z))
theorem asg_den {pr : Nat → Bool} {i : Nat} {e : E} {DD : Ends} (hp : pr i = false) (h : tS T W pr (dS C (.asg (.var i) e)) DD σ H) : tE T W (dE C e) σ H (fun x H1 => gName i x σ H1 DD.nx) := by
  obtain ⟨G, ρ, F, P, h⟩ := h
  simp only [dS] at h
  refine ⟨G, ρ, F, P, h.then.imp (fun (d, o) h v H1 ⟨G1, Fv, F1, E, r⟩ => ?_) fun _ _ _ z => z⟩
  obtain ⟨F', n, sub, re'⟩ := RpE.store (i := i) E.env E.step.nd r
  exact h _ H1 ⟨G1, F', E.step.less n sub, re', .set hp⟩
variable {pr : Nat → Bool} {eit etg eelt : Expr} {ifs : List Expr} {scope : Scope} {own : List (Str × Nat)} {pos : Pos} {it : I} {tg : Tg} {cs : Cs} {elt : E}
theorem e_lc (hc : X.calm = true) (hN : X.N.Nodup) (hi : PI X etg eit (tI T W it (dI C it))) (ok : BlkOk X.N X.env.scope scope own) (hnd : (own.map (·.2)).Nodup)
    (hg : ∀ (s : Shared) (H : Hp) (Ca : Addr) (cl : List (Str × Addr)) (fp : List Addr), PG (X.blk s H scope (compEnvC scope cl Ca X.env) fp) etg (tG T (fun j => !(own.map (·.2)).contains j) tg))
    (ht : ∀ (s : Shared) (H : Hp) (Ca : Addr) (cl : List (Str × Addr)) (fp : List Addr), PTs (X.blk s H scope (compEnvC scope cl Ca X.env) fp) ifs (tB' T WF (dCs C cs)))
    (he : ∀ (s : Shared) (H : Hp) (Ca : Addr) (cl : List (Str × Addr)) (fp : List Addr), PE (X.blk s H scope (compEnvC scope cl Ca X.env) fp) eelt (tE T WF (dE C elt))) (hs : ∀ x, foldedSetIterable eit X.env x = pure x) :
    PE X (.ListComp eelt [⟨etg, eit, ifs, 0⟩] scope pos) (tE T W (dE C (.lc it tg (own.map (·.2)) cs elt))) :=
  (pe_lc hc hN hi ok hg ht he hs).weak fun σ H Q h => lc_den hnd h
theorem s_lc {i : Nat} {y : Str} {py spos : Pos} (hp : pr i = false) (hc : X.calm = true) (hN : X.N.Nodup) (hy : X.N[i]? = some y) (hyl : X.env.scope.names.lookup y = some .local)
    (hsw : swapsWith (.ListComp eelt [⟨etg, eit, ifs, 0⟩] scope pos) (some (.Name y py)) spos.line X.env = pure true) (hi : PI X etg eit (tI T W it (dI C it))) (ok : BlkOk X.N X.env.scope scope own) (hnd : (own.map (·.2)).Nodup)
    (hg : ∀ (s : Shared) (H : Hp) (Ca : Addr) (cl : List (Str × Addr)) (fp : List Addr), PG (X.blk s H scope (compEnvC scope cl Ca X.env) fp) etg (tG T (fun j => !(own.map (·.2)).contains j) tg))
    (ht : ∀ (s : Shared) (H : Hp) (Ca : Addr) (cl : List (Str × Addr)) (fp : List Addr), PTs (X.blk s H scope (compEnvC scope cl Ca X.env) fp) ifs (tB' T WF (dCs C cs)))
    (he : ∀ (s : Shared) (H : Hp) (Ca : Addr) (cl : List (Str × Addr)) (fp : List Addr), PE (X.blk s H scope (compEnvC scope cl Ca X.env) fp) eelt (tE T WF (dE C elt))) (hs : ∀ x, foldedSetIterable eit X.env x = pure x) :
    PS X (.Assign [.Name y py] (.ListComp eelt [⟨etg, eit, ifs, 0⟩] scope pos) spos) (tS T W pr (dS C (.asg (.var i) (.lc it tg (own.map (·.2)) cs elt)))) :=
  (ps_setLc hc hN hy hyl hsw hi ok hg ht he hs).weak fun DD σ H h => lc_den hnd (asg_den hp h)
theorem cs_nil : PTs X [] (tB' T W (dCs C .nil)) := by
  refine ⟨fun pins s σ H Q I ⟨G, ρ, F, P, h⟩ => pts_nil.run pins s σ H Q I ?_⟩
  simp only [dCs] at h
  exact h H ⟨G, F, P.ev0⟩
theorem cs_one {c : Expr} {t : Mp.T} (h : PT X c (tB' T W (dT C t))) : PTs X [c] (tB' T W (dCs C (.one t))) := by
  refine ⟨fun pins s σ H Q I ⟨G, ρ, F, P, h'⟩ => (pts_one h).run pins s σ H Q I ?_⟩
  simp only [dCs] at h'
  exact ⟨G, ρ, F, P, h'⟩
end
end Mp
/-! Own exceptions: several clauses, with and without a name. -/
namespace Mp
open PySem PySem.Spec PyProof.Rows L2
/-- a clause: its class, the name's slot, its suite's reading -/
structure Clause where
  c : Value
  i : Option Nat
  ts : Addr → Value → Option Addr → TS
def endsAt (D : Ends) : Option Nat → Ends
  | none => D
  | some i => { nx := fun σ' H' => D.nx (σ'.set i none) H', rt := D.rt, bk := fun σ' H' => D.bk (σ'.set i none) H', ct := fun σ' H' => D.ct (σ'.set i none) H' }
def slotAt (a : Addr) (σ : L2.St) : Option Nat → L2.St
  | none => σ
  | some i => σ.set i (some (.ref a))
def wMix (K : PySem.W.Frag) (Wout : WX) (D : Ends) : List Clause → WX
  | [] => Wout
  | k :: r => fun cls d σ H => ∃ b, PySem.W.exmOne K cls k.c = some b ∧ (b = true → ∀ a, H a = none → k.ts a cls d (endsAt D k.i) (slotAt a σ k.i) H) ∧ (b = false → wMix K Wout D r cls d σ H)
inductive HdsM (X : Cx) : List ExceptHandler → List Clause → Prop
  | nil : HdsM X [] []
  | cons {x : Str} {c : Value} {ts : Addr → Value → Option Addr → TS} {b₀ : Stmt} {suite : List Stmt} {np pos' : Pos} {hds : List ExceptHandler} {l : List Clause} (hc : Names X x c)
      (hsu : ∀ (a : Addr) (oe : Obj) (cls : Value) (d : Option Addr) (pn : List (Addr × Obj)), Zc cls d oe → (∃ vs, oe.data = .fields vs) → PSs (X.suite a ((a, oe) :: pn)) (b₀ :: suite) (ts a cls d)) (r : HdsM X hds l) :
      HdsM X (.ExceptHandler (some (.Name x np)) none (b₀ :: suite) pos' :: hds) (⟨c, none, ts⟩ :: l)
  | as_ {x n : Str} {c : Value} {i : Nat} {ts : Addr → Value → Option Addr → TS} {b₀ : Stmt} {suite : List Stmt} {np pos' : Pos} {hds : List ExceptHandler} {l : List Clause} (hc : Names X x c) (hi : X.N[i]? = some n) (hln : X.env.kindOf n = some .local)
      (hsu : ∀ (a : Addr) (oe : Obj) (cls : Value) (d : Option Addr) (pn : List (Addr × Obj)), Zc cls d oe → (∃ vs, oe.data = .fields vs) → PSs (X.suite a ((a, oe) :: pn)) (b₀ :: suite) (ts a cls d)) (r : HdsM X hds l) :
      HdsM X (.ExceptHandler (some (.Name x np)) (some n) (b₀ :: suite) pos' :: hds) (⟨c, some i, ts⟩ :: l)
section
variable {X : Cx} {body : List Stmt} {h₀ : ExceptHandler} {hds : List ExceptHandler} {l : List Clause} {pos : Pos} {tb : WX → TS} {Wout : WX}
theorem ps_try_mix (hs : X.stack = X.env :: X.outer) (hf : X.env.frame = some X.env.locals) (hN : X.N.Nodup) (tk : Takes X Wout)
    (hb : ∀ (W : WX) (pn : List (Addr × Obj)) (xe : Value → Shared → Prop), Takes (X.tr pn xe) W → PassesOwn (model X.prog X.w) X.A X.env xe → PSs (X.tr pn xe) body (tb W))
    (hh : HdsM X (h₀ :: hds) l) : PS X (.Try body (h₀ :: hds) [] [] pos) (fun D σ H => tb (wMix X.K Wout D l) D σ H) := by
  refine ⟨fun pins s σ H D I h => ?_⟩
  have ok := I.ok
  have hfr : X.A.frames = some (X.env :: X.outer) := by rw [ok.frames, hs]
  refine wpAny_Try_except ?_
  refine wpAny_mono ((hb (wMix X.K Wout D l) (X.pn ++ pins) (fun e s₁ => wpAny (model X.prog X.w) X.A (noteFrame e X.env) (fun _ s₂ => wpAny (model X.prog X.w) X.A (setFlight e none) (fun _ s₃ =>
    wpAny (model X.prog X.w) X.A (handleBy e X.env (h₀ :: hds)) (SP X pins D) X.xe s₃) X.xe s₂) X.xe s₁) (fun u s' xx => ?_) PassesOwn.looking).run [] s σ H D (I.toTry _) h) (fun f s1 hsp => ?_) (fun e s1 he => he)
  · -- the catch
    obtain ⟨a, B, sI, pins', σ', H', cls, d, rfl, J', nb, up, sky, na, os, ag, w⟩ := xx
    have J : L2.Inv X pins σ' H' sI := J'.ofTry ok
    have sky' : Sky B (X.env :: X.outer) a (Zc cls d) X.env.locals s'.heap := by rw [← hs]; exact sky
    show wpAny (model X.prog X.w) X.A (noteFrame (.ref a) X.env) _ _ _
    refine Sky.land Zc.steady hfr hf sky' fun h3 fl3 up3 => ?_
    have J3 : L2.Inv X pins σ' H' { s' with heap := h3 } := J.landed nb fl3.1 (up.trans up3) os ag
    obtain ⟨oe3, vs3, he3, hz3, hd3⟩ := fl3.there
    have notFr : ∀ {h : Heap} {o : Obj} {vs : Array Value}, h.FunFrames B (X.env :: X.outer) → h.get? a = some o → o.data = .fields vs → a ∉ frs (X.env :: X.outer) := fun {h o vs} ff e dd hm => by
      obtain ⟨_, o', e', hnf⟩ := ff.mem hm
      rw [e] at e'; cases e'
      exact hnf _ dd
    have nfr := notFr fl3.2.2.1 he3 hd3
    have nL : a ≠ X.env.locals := fun z => nfr (List.mem_filterMap.mpr ⟨X.env, List.mem_cons_self, by rw [hf, z]⟩)
    have nF : a ∉ X.fs := fun hm => by
      obtain ⟨e, he, q⟩ := List.mem_filterMap.mp hm
      exact nfr (List.mem_filterMap.mpr ⟨e, List.mem_cons_of_mem _ he, q⟩)
    have S3 := J3.suite he3 hd3 na nL nF
    have go : ∀ {hds' : List ExceptHandler} {l' : List Clause}, HdsM X hds' l' → wMix X.K Wout D l' cls d σ' H' →
        wpAny (model X.prog X.w) X.A (handleBy (.ref a) X.env hds') (SP X pins D) X.xe { s' with heap := h3 } := by
      intro hds' l' hk
      induction hk with
      | nil =>
        intro w
        refine wpAny_handleBy_nil ?_
        obtain ⟨k1, k2, k3, oe, vs, T, oT, ts', he, hz, hd, h1, hr⟩ := id fl3
        unfold PySem.passOn
        refine wpAny_bind (wpAny_field he hd h1 ?_)
        rw [if_neg (show ¬ ((Value.ref T == Value.none) = true) from by simp)]
        have fin : wpAny (model X.prog X.w) X.A (setFlight (.ref a) X.env.frame) (fun _ s4 => wpAny (model X.prog X.w) X.A (throw (.ref a) : Sem Flow) (SP X pins D) X.xe s4) X.xe { s' with heap := h3 } := by
          rw [hf]
          refine HandSPX.setFlight_upZ fl3 fun h4 hh4 up4 => wpAny_throw (tk _ _ ?_)
          exact ⟨a, B, sI, pins, σ', H', cls, d, rfl, J, nb, (up.trans up3).trans up4, .inr (.inr (by rw [hs]; exact hh4)), na, os, ag, w⟩
        first
          | exact wpAny_bind (wpAny_pure (wpAny_bind fin))
          | exact wpAny_bind fin
      | @cons x c ts b₀ suite np pos' hds2 l2 hc hsu r ih =>
        intro w
        obtain ⟨b, hb1, hyes, hno⟩ := w
        refine wpAny_handleBy_cons (codeAny_handlers_test ?_) (by intro q; cases q)
        have LT : PySem.W.Looks (model X.prog X.w) h3 (typeOf (.ref a)) cls := fun A Q E s k q => wpAny_typeOf_ref (k _ _ he3) (by rw [hz3.1]; exact q)
        have LM := PySem.W.exm_one (M := model X.prog X.w) (J3.kIn) LT hb1
        have test : ∀ {Q : Value → Shared → Prop} {E : Value → Shared → Prop}, Q c { s' with heap := h3 } → wpAny (model X.prog X.w) (X.A.mark (some (.ref a))) (eval (.Name x np) X.env) Q E { s' with heap := h3 } := fun {Q E} q => by
          obtain ⟨hg, hdbg, hm | ⟨hm, hv, hnn⟩⟩ := hc
          · exact ld_glob (X := X.suite a ((a, oe3) :: (X.pn ++ pins))) S3 hg hm q hdbg
          · exact ld_blt (X := X.suite a ((a, oe3) :: (X.pn ++ pins))) S3 hg hm hv q hnn hdbg
        refine test (LM.here ?_)
        cases b with
        | true =>
          refine codeAny_handlers_suite ?_
          refine HandSPX.lands_againZ fl3 fun h4 fl4 up4 => ?_
          have J4 : L2.Inv X pins σ' H' { s' with heap := h4 } := J.landed nb fl4.1 ((up.trans up3).trans up4) os ag
          obtain ⟨oe4, vs4, he4, hz4, hd4⟩ := fl4.there
          have S4 := J4.suite he4 hd4 na nL nF
          refine wpAny_mono ((hsu a oe4 cls d (X.pn ++ pins) hz4 ⟨_, hd4⟩).run [] _ _ H' _ S4 (hyes rfl a na)) (fun f s6 hsp => ?_) (fun _ _ z => False.elim z)
          cases f with
          | next =>
            obtain ⟨σ6, H6, S6, q6⟩ := hsp
            exact ⟨_, _, S6.unsuite ok, q6⟩
          | brk =>
            obtain ⟨σ6, H6, S6, q6⟩ := hsp
            exact ⟨_, _, S6.unsuite ok, q6⟩
          | cont =>
            obtain ⟨σ6, H6, S6, q6⟩ := hsp
            exact ⟨_, _, S6.unsuite ok, q6⟩
          | ret u =>
            obtain ⟨v6, σ6, H6, S6, r6, q6⟩ := hsp
            exact ⟨_, _, _, S6.unsuite ok, r6, q6⟩
        | false =>
          show wpAny _ X.A (handleBy (.ref a) X.env hds2) _ _ _
          exact ih (hno rfl)
      | @as_ x n c i ts b₀ suite np pos' hds2 l2 hc hi hln hsu r ih =>
        intro w
        obtain ⟨b, hb1, hyes, hno⟩ := w
        refine wpAny_handleBy_cons (codeAny_handlers_test ?_) (by intro q; cases q)
        have LT : PySem.W.Looks (model X.prog X.w) h3 (typeOf (.ref a)) cls := fun A Q E s k q => wpAny_typeOf_ref (k _ _ he3) (by rw [hz3.1]; exact q)
        have LM := PySem.W.exm_one (M := model X.prog X.w) (J3.kIn) LT hb1
        have test : ∀ {Q : Value → Shared → Prop} {E : Value → Shared → Prop}, Q c { s' with heap := h3 } → wpAny (model X.prog X.w) (X.A.mark (some (.ref a))) (eval (.Name x np) X.env) Q E { s' with heap := h3 } := fun {Q E} q => by
          obtain ⟨hg, hdbg, hm | ⟨hm, hv, hnn⟩⟩ := hc
          · exact ld_glob (X := X.suite a ((a, oe3) :: (X.pn ++ pins))) S3 hg hm q hdbg
          · exact ld_blt (X := X.suite a ((a, oe3) :: (X.pn ++ pins))) S3 hg hm hv q hnn hdbg
        refine test (LM.here ?_)
        cases b with
        | true =>
          refine codeAny_handlers_suite_as ?_
          refine HandSPX.lands_againZ fl3 fun h4 fl4 up4 => ?_
          have J4 : L2.Inv X pins σ' H' { s' with heap := h4 } := J.landed nb fl4.1 ((up.trans up3).trans up4) os ag
          obtain ⟨oe4, vs4, he4, hz4, hd4⟩ := fl4.there
          have S4 := J4.suite he4 hd4 na nL nF
          refine store_ok (X := X.suite a ((a, oe4) :: (X.pn ++ pins))) (v := .ref a) S4 hN hi (.inl hln) rfl (fun s5 S5 => ?_) (.inr hln)
          refine wpAny_mono ((hsu a oe4 cls d (X.pn ++ pins) hz4 ⟨_, hd4⟩).run [] s5 _ H' _ S5 (hyes rfl a na)) (fun f s6 hsp => ?_) (fun _ _ z => False.elim z)
          have end_ : ∀ {σ6 : L2.St} {H6 : Hp} {Q : Shared → Prop}, L2.Inv (X.suite a ((a, oe4) :: (X.pn ++ pins))) [] σ6 H6 s6 → (∀ s7, L2.Inv X pins (σ6.set i none) H6 s7 → Q s7) →
              wpAny (model X.prog X.w) X.A (do bindName X.env n .none; unbindBehindTheSuite X.env n pos') (fun _ s7 => Q s7) X.xe s6 := fun {σ6 H6 Q} S6 hq => gone_ok (S6.unsuite ok) hN hi hln hq
          cases f with
          | next =>
            obtain ⟨σ6, H6, S6, q6⟩ := hsp
            exact end_ S6 fun s7 J7 => ⟨_, _, J7, q6⟩
          | brk =>
            obtain ⟨σ6, H6, S6, q6⟩ := hsp
            exact end_ S6 fun s7 J7 => ⟨_, _, J7, q6⟩
          | cont =>
            obtain ⟨σ6, H6, S6, q6⟩ := hsp
            exact end_ S6 fun s7 J7 => ⟨_, _, J7, q6⟩
          | ret u =>
            obtain ⟨v6, σ6, H6, S6, r6, q6⟩ := hsp
            exact end_ S6 fun s7 J7 => ⟨_, _, _, J7, r6, q6⟩
        | false =>
          show wpAny _ X.A (handleBy (.ref a) X.env hds2) _ _ _
          exact ih (hno rfl)
    exact go hh w
  · cases f with
    | next =>
      obtain ⟨σ', H', J', q⟩ := hsp
      exact wpAny_execs_nil ⟨σ', H', J'.ofTry ok, q⟩
    | brk =>
      obtain ⟨σ', H', J', q⟩ := hsp
      exact ⟨σ', H', J'.ofTry ok, q⟩
    | cont =>
      obtain ⟨σ', H', J', q⟩ := hsp
      exact ⟨σ', H', J'.ofTry ok, q⟩
    | ret u =>
      obtain ⟨v, σ', H', J', r, q⟩ := hsp
      exact ⟨v, σ', H', J'.ofTry ok, r, q⟩
end
end Mp
/-! Own exceptions: raise, try. -/
namespace Mp
open PySem L2

/-- what an own exception's __init__ promises -/
def spX (T : Tab) (c : Nat) : Sp := fun vs H Q E => ∃ a z, vs = [.ref a, .str z] ∧ z.length ≤ 1000 ∧ H a = some (exo a (T.xa c) none) ∧ ∀ d, H d = none → d ≠ a → Q .non (upd (upd H d (exd d [(T.xf c, .str z)])) a (exo a (T.xa c) (some d)))
/-- a class of exceptions that the code raises -/
structure Raiser (X : Cx) (T : Tab) (c : Nat) (x : Str) : Prop where
  ok : ∃ k fI fd ps, OexC X.K (T.xa c) ∧ PySem.W.findIn X.K (.ref (T.xa c)) "__init__" = some (some (.ref fI)) ∧ PySem.W.typeIn X.K (.ref fI) = some (.type "function") ∧ FnOk X.prog X.w X.K X.mg X.base (L2.CX X.prog X.w) k fI fd ps (spX T c) ∧ Room (k + 1) X.A ∧ Binds X.K fd ps [] ∧ X.mg x = some (.ref (T.xa c))
section
variable {X : Cx} {T : Tab} {W : WX} {C : Cfg} {pr : Nat → Bool} {x : Str} {c : Nat} {e : Expr} {p pos pos2 : Pos} {es : Es}
theorem passes_false : Passes (L2.CX X.prog X.w) X (fun _ _ _ => False) := fun pins σ H s e s' I ⟨a, B, H', cls, d, _, _, _, _, _, _, _, z⟩ => z.elim
theorem s_rs (rf : Raiser X T c x) (hcx : c < T.nx) (hc : X.calm = true) (tk : L2.Takes X W) (hg : Gl X x) (hdb : (x == ("__debug__" : Str)) = false) (ha : PA X [e] (tEs T W (dEs C es))) (pl : plainE e = true) :
    PS X (.Raise (some (.Call (.Name x p) [e] [] pos2)) none pos) (tS T W pr (dS C (.rs c es))) := by
  obtain ⟨k, fI, fd, ps, ox, iC, tI, F1, hr, hb, hm⟩ := rf.ok
  refine (L2.ps_raise hc tk (pmk_oex (p := p) (pos := pos2) ox iC tI F1 hr hb .nil passes_false hg hm ha hdb (star_cons pl [] X.env) rfl)).weak fun DD σ H ⟨G, ρ, F, P, h⟩ => ?_
  simp only [dS] at h
  refine ⟨G, ρ, F, P, h.then.imp (fun (ds, o) h vs H1 ⟨G1, Fv, F1, E, r⟩ => ?_) fun _ _ _ z => z⟩
  cases ds with
  | nil => exact h.elim
  | cons d ds => cases ds with
    | cons d2 ds => cases d <;> exact h.elim
    | nil => cases d with
      | str z =>
        have h : PostS T W pr DD G H F σ (match decide (z.length ≤ 1000) with | true => .exc c (.str z) (now ρ o) | false => .stuck) := h
        cases hz : decide (z.length ≤ 1000) with
        | false => rw [hz] at h; exact h.elim
        | true =>
          rw [hz] at h
          have hz := of_decide_eq_true hz
          obtain ⟨v, ws, A, B, rfl, rfl, rv, ⟨rfl, rfl⟩⟩ := r
          cases rv.str
          refine ⟨by simp, fun a ha => ⟨a, z, rfl, hz, upd_same, fun d hd ne => ⟨rfl, d, [(T.xf c, .str z)], upd_same, ?_, ?_, ?_⟩⟩⟩
          · rw [upd_ne ne, upd_same]
          · rw [upd_ne ne] at hd
            exact hd
          · rw [upd_ne ne] at hd
            have e : upd (L2.del (upd (upd (upd H1 a (exo a (T.xa c) none)) d (exd d [(T.xf c, .str z)])) a (exo a (T.xa c) (some d))) a) d (.xd [(T.xf c, .str z)]) = upd H1 d (.xd [(T.xf c, .str z)]) := by
              funext b
              by_cases hb : b = d
              · rw [hb, upd_same, upd_same]
              · rw [upd_ne hb, upd_ne hb]
                by_cases hb2 : b = a
                · rw [hb2, del_same, ha]
                · rw [del_ne hb2, upd_ne hb2, upd_ne hb, upd_ne hb2]
            rw [e]
            have s0 : Step G1 H1 [] (upd G1 d (.xd [(T.xf c, .str z)])) (upd H1 d (.xd [(T.xf c, .str z)])) [] := .newS E.step.h hd
            have E2 := E.nil.trans (fun _ z => nomatch z) (New.ev E.pre s0)
            exact h σ .refl _ d ⟨_, F1, E2.step, E.env.mono s0.g fun q hq u e => s0.keep q u e (fun z => nomatch z), .str z, upd_same, ⟨rfl, rfl⟩, rfl, hcx⟩
      | _ => exact h.elim
/-! ### suites -/
structure ExFacts (X : Cx) (T : Tab) (C : Cfg) : Prop where
  fld : ∀ c, T.xf c = T.xf 0
  xf : ∀ c, XfC X.K (T.xa c)
  no : ∀ c, PySem.W.findIn X.K (.ref (T.xa c)) (T.xf 0) = some none
  sub : ∀ c c', c < T.nx → c' < T.nx → PySem.W.exmOne X.K (.ref (T.xa c)) (.ref (T.xa c')) = some (C.sub c c')
/-- the caught exception -/
structure Caught (T : Tab) (G H : Hp) (σ : L2.St) (a : Addr) (i : Option Nat) (cls : Value) (d : Option Addr) (c : Nat) (x : D) : Prop where
  cl : cls = .ref (T.xa c)
  at_ : ∃ dd w, d = some dd ∧ G dd = some (.xd [(T.xf c, w)]) ∧ Rp T G H x w []
  ok : XOk T c x
  sl : ∀ j, i = some j → σ[j]? = some (some (.ref a))
def tXe (T : Tab) (C : Cfg) (a : Addr) (i : Option Nat) (cls : Value) (d : Option Addr) (xe : Xe) : TE := fun σ H Q => ∃ G c x y, Ext G H ∧ Caught T G H σ a i cls d c x ∧ dXe C c x xe = some y ∧ New T G H y Q
def tXS (T : Tab) (C : Cfg) (pr : Nat → Bool) (a : Addr) (i : Option Nat) (cls : Value) (d : Option Addr) (s : Xs) : TS := fun DD σ H => ∃ G ρ F c x, Pre T G H ρ σ F ∧ Caught T G H σ a i cls d c x ∧ PostS T WF pr DD G H F σ (dXs C c x s ρ)
theorem Caught.mono {G H G' H' : Hp} {σ : L2.St} {a : Addr} {i : Option Nat} {cls : Value} {d : Option Addr} {c : Nat} {x : D} (k : Caught T G H σ a i cls d c x) (hg : Ext G G') : Caught T G' H' σ a i cls d c x := by
  obtain ⟨cl, ⟨dd, w, e1, e2, e3⟩, ok, sl⟩ := k
  exact ⟨cl, ⟨dd, w, e1, hg _ _ e2, Rp.mono hg _ _ _ e3 (fun _ z => nomatch z)⟩, ok, sl⟩
variable {a : Addr} {oe : Obj} {cls : Value} {d : Option Addr} {pn : List (Addr × Obj)} {n : Str} {j : Nat} {i : Option Nat}
theorem x_what (ef : ExFacts X T C) (hN : X.N[j]? = some n) (hv : Vis X.env.scope n) (hd : (n == ("__debug__" : Str)) = false) (hcd : (n == ("__classdict__" : Str)) = false) (hz : L2.Zc cls d oe) (hf : ∃ vs, oe.data = .fields vs) :
    PE (X.suite a ((a, oe) :: pn)) (.Attribute (.Name n p) (T.xf 0) pos) (tXe T C a (some j) cls d .what) := by
  refine ⟨fun pins s σ H Q I ⟨G, c, x, y, ex, k, e, n'⟩ => ?_⟩
  have hn : PE (X.suite a ((a, oe) :: pn)) (.Name n p) (tVar j) := pe_var hN hv hd hcd
  refine (pe_xf (ef.xf c) (ef.no c) hz hf hn).run pins s σ H Q I ?_
  obtain ⟨dd, w, e1, e2, e3⟩ := k.at_
  refine ⟨.ref a, k.sl j rfl, rfl, k.cl, dd, [(T.xf c, w)], w, e1, ex _ _ e2, ?_, ?_⟩
  · rw [ef.fld c]
    simp
  · cases e
    exact n'.val ex e3
theorem x_str {z : Str} {k : _} : PE (X.suite a ((a, oe) :: pn)) (.Constant (.str z) k pos) (tXe T C a i cls d (.str z)) :=
  pe_str.weak fun σ H Q ⟨G, c, x, y, ex, k, e, n'⟩ => by cases e; exact n'.str ex
theorem x_bl {z : Bool} {k : _} : PE (X.suite a ((a, oe) :: pn)) (.Constant (.bool z) k pos) (tXe T C a i cls d (.bl z)) :=
  pe_bl.weak fun σ H Q ⟨G, c, x, y, ex, k, e, n'⟩ => by cases e; exact n'.bl ex
theorem x_pair {ea eb : Expr} {xa xb : Xe} {k : _} (ha : PE (X.suite a ((a, oe) :: pn)) ea (tXe T C a i cls d xa)) (hb : PE (X.suite a ((a, oe) :: pn)) eb (tXe T C a i cls d xb)) (pl : plainE ea = true) (pl2 : plainE eb = true) :
    PE (X.suite a ((a, oe) :: pn)) (.Tuple [ea, eb] k pos) (tXe T C a i cls d (.pair xa xb)) := by
  refine (pe_tup (pa_cons ha (pa_cons hb pa_nil (star_cons pl2 [] _)) (star_cons pl [eb] _))).weak fun σ H Q ⟨G, c, x, y, ex, k, e, n'⟩ => ?_
  have e : (match dXe C c x xa, dXe C c x xb with | some x, some y => some (.tup [x, y]) | _, _ => none) = some y := e
  split at e
  · rename_i y1 y2 e1 e2
    cases e
    refine ⟨G, c, x, y1, ex, k, e1, fun v H1 G1 Fv s1 r1 => ?_⟩
    refine ⟨G1, c, x, y2, s1.h, k.mono s1.g, e2, fun u H2 G2 Fu s2 r2 => ?_⟩
    refine ⟨by show 2 ≤ sizeLine; rw [sizeLine_eq]; omega, fun q hq => ?_⟩
    have m := s2.more (R := Fv) (Rp.trk _ _ _ r1) s1.gn s1.nd (fun _ _ z => nomatch z)
    rw [List.append_nil] at m
    have s12 := s1.trans m
    have s3 : Step G2 H2 [] (upd G2 q (.tup [v, u])) (upd H2 q (.tup [v, u])) [] := .newS s2.h hq
    have r1' : Rp T G2 H2 y1 v Fv := Rp.mono s2.g _ _ _ r1 fun a ha o q => s2.keep a o q (fun z => nomatch z)
    have rl : RpL T G2 H2 [y1, y2] [v, u] (Fv ++ Fu) := ⟨v, [u], Fv, Fu, rfl, rfl, r1', .one r2⟩
    have m3 := s3.more (R := Fv ++ Fu) (RpL.trk _ _ _ rl) s12.gn s12.nd (fun _ _ z => nomatch z)
    rw [List.append_nil] at m3
    exact n' (.ref q) _ _ (Fv ++ Fu) (s12.trans m3) ⟨q, [v, u], rfl, SqT.of upd_same, RpL.mono s3.g _ _ _ rl fun a _ o e => s3.keep a o e (fun z => nomatch z)⟩
  · cases e
theorem x_ret {ea : Expr} {xe : Xe} {σ : L2.St} (h : PE (X.suite a ((a, oe) :: pn)) ea (tXe T C a i cls d xe)) : PS (X.suite a ((a, oe) :: pn)) (.Return (some ea) pos) (tXS T C pr a i cls d (.ret xe)) := by
  refine (ps_ret h).weak fun DD σ H ⟨G, ρ, F, c, x, P, k, q⟩ => ?_
  simp only [dXs] at q
  cases e : dXe C c x xe with
  | none => simp only [e] at q; exact q.elim
  | some y =>
    simp only [e] at q
    exact ⟨G, c, x, y, P.ex, k, e, fun v H' G' Fv s r => q v σ H' ⟨G', Fv, F, (New.ev P s).step, r, (New.ev P s).env, .refl⟩⟩
theorem x_pass : PS (X.suite a ((a, oe) :: pn)) (.Pass pos) (tXS T C pr a i cls d .pass) := by
  refine ps_pass.weak fun DD σ H ⟨G, ρ, F, c, x, P, k, q⟩ => ?_
  simp only [dXs] at q
  exact q σ H P.okS
/-! ### try -/
theorem dXs_exc {c c' : Nat} {x x' : D} {r : Env} : ∀ {s : Xs} {ρ : Env}, dXs C c x s ρ ≠ .exc c' x' r
  | .ret e, ρ => by simp only [dXs]; split <;> simp
  | .app i e, ρ => by simp only [dXs]; split <;> (try split) <;> simp
  | .iff t e s, ρ => by
    simp only [dXs]
    split
    · split <;> simp
    · exact dXs_exc
  | .pass, ρ => by simp only [dXs]; simp
theorem RpE.forget2 {G H : Hp} {ρ : Env} {σ : L2.St} {F : List Addr} {i : Nat} (s0 : Option V) (re : RpE T G H ρ σ F) (nd : F.Nodup) : ∃ F', F'.Nodup ∧ (∀ a ∈ F', a ∈ F) ∧ RpE T G H (ρ.set i .gone) (σ.set i s0) F' := by
  by_cases hi : i < ρ.length
  · obtain ⟨s, A, R, es, pm, rs, put⟩ := re.focus hi
    obtain ⟨F', pm', re'⟩ := put (F1' := []) (d' := .gone) (s' := s0) (.refl _) (fun a ha o q => q) (.inl ⟨rfl, rfl⟩)
    rw [List.nil_append] at pm'
    exact ⟨F', pm'.nodup_iff.mpr (List.nodup_append.mp (pm.nodup_iff.mp nd)).2.1, fun a ha => pm.mem_iff.mpr (List.mem_append_right _ (pm'.mem_iff.mp ha)), re'⟩
  · rw [List.set_eq_of_length_le (by omega), List.set_eq_of_length_le (by rw [re.length]; omega)]
    exact ⟨F, nd, fun a ha => ha, re⟩
/-- the clauses of the text are those of the den -/
inductive HsOk (X : Cx) (T : Tab) (C : Cfg) (pr : Nat → Bool) : List ExceptHandler → Hs → List Clause → Prop
  | nil : HsOk X T C pr [] .nil []
  | cons {h : ExceptHandler} {hds : List ExceptHandler} {c : Nat} {i : Option Nat} {s : Xs} {hs : Hs} {l : List Clause} {k : Clause} (hk : HdsM X [h] [k]) (e1 : k.c = .ref (T.xa c)) (e2 : k.i = i) (e3 : k.ts = fun a cls d => tXS T C pr a i cls d s) (hcx : c < T.nx)
      (hp : ∀ j, i = some j → pr j = false ∧ j < X.N.length) (r : HsOk X T C pr hds hs l) : HsOk X T C pr (h :: hds) (.cons c i s hs) (k :: l)
theorem HsOk.hds {hds : List ExceptHandler} {hs : Hs} {l : List Clause} (h : HsOk X T C pr hds hs l) : HdsM X hds l := by
  induction h with
  | nil => exact .nil
  | cons hk e1 e2 e3 hcx hp r ih =>
    cases hk with
    | cons hc hsu _ => exact .cons hc hsu ih
    | as_ hc hi hln hsu _ => exact .as_ hc hi hln hsu ih
theorem hs_ok (ef : ExFacts X T C) {hds : List ExceptHandler} {hs : Hs} {l : List Clause} (hh : HsOk X T C pr hds hs l) {DD : Ends} {G H : Hp} {F : List Addr} {σ : L2.St} {c : Nat} {x : D} {ρ' : Env} (hl : σ.length = X.N.length) (h : PostS T W pr DD G H F σ (dHs C hs c x ρ')) :
    ∀ σ', Kp pr σ σ' → Xi T (wMix X.K W DD l) G H F σ' c x ρ' := by
  induction hh with
  | nil =>
    simp only [dHs] at h
    exact h
  | @cons hd hds c' i s hs l k hk e1 e2 e3 hcx hp r ih =>
    intro σ' kp H' dd ok
    obtain ⟨G', F', st, re, w, hdd, rx, xo⟩ := id ok
    simp only [dHs] at h
    refine ⟨C.sub c c', by rw [e1]; exact ef.sub c c' xo.2 hcx, fun hb a ha => ?_, fun hb => ?_⟩
    · rw [hb] at h
      rw [e3, e2]
      cases i with
      | none =>
        have h : PostS T W pr DD G H F σ (dXs C c x s ρ') := h
        refine ⟨G', ρ', F', c, x, ⟨st.h, re, st.nd, st.gn⟩, ⟨rfl, ⟨dd, w, rfl, hdd, rx⟩, xo, fun j z => nomatch z⟩, ?_⟩
        have h2 := PostS.mono st kp h
        show PostS T WF pr DD G' H' F' σ' (dXs C c x s ρ')
        cases ed : dXs C c x s ρ' with
        | exc c2 x2 r2 => exact absurd ed dXs_exc
        | _ => rw [ed] at h2; exact h2
      | some j =>
        have h : PostS T W pr DD G H F σ ((dXs C c x s (ρ'.set j .gone)).mapE fun r => r.set j .gone) := h
        obtain ⟨pj, lj⟩ := hp j rfl
        obtain ⟨F3, n3, s3, re3⟩ := re.forget2 (i := j) (some (V.ref a)) st.nd
        have st3 : Step G H F G' H' F3 := st.less n3 s3
        have kp3 : Kp pr σ (σ'.set j (some (V.ref a))) := kp.trans (.set pj)
        have slj : (σ'.set j (some (V.ref a)))[j]? = some (some (V.ref a)) := by
          rw [List.getElem?_set_self]
          rw [kp.1, hl]; exact lj
        refine ⟨G', ρ'.set j .gone, F3, c, x, ⟨st3.h, re3, st3.nd, st3.gn⟩, ⟨rfl, ⟨dd, w, rfl, hdd, rx⟩, xo, fun j' z => by cases z; exact slj⟩, ?_⟩
        show PostS T WF pr (endsAt DD (some j)) G' H' F3 (σ'.set j (some (V.ref a))) (dXs C c x s (ρ'.set j .gone))
        have fin : ∀ {r : Env} {σ2 : L2.St} {H2 : Hp}, OkS T pr G' H' F3 (σ'.set j (some (V.ref a))) r σ2 H2 → OkS T pr G H F σ (r.set j .gone) (σ2.set j none) H2 := fun {r σ2 H2} ⟨G2, F2, s2, re2, k2⟩ => by
          obtain ⟨F4, n4, s4, re4⟩ := re2.forget2 (i := j) none s2.nd
          exact ⟨G2, F4, (st3.trans s2).less n4 s4, re4, (kp3.trans k2).trans (.set pj)⟩
        cases ed : dXs C c x s (ρ'.set j .gone) with
        | exc c2 x2 r2 => exact absurd ed dXs_exc
        | nx r => rw [ed] at h; exact fun σ2 H2 q => h _ H2 (fin q)
        | bk r => rw [ed] at h; exact fun σ2 H2 q => h _ H2 (fin q)
        | ct r => rw [ed] at h; exact fun σ2 H2 q => h _ H2 (fin q)
        | ret d r =>
          rw [ed] at h
          intro v σ2 H2 ⟨G2, Fv, F2, s2, rv, re2, k2⟩
          obtain ⟨b1, b2, b3⟩ := List.nodup_append.mp s2.nd
          obtain ⟨F4, n4, s4, re4⟩ := re2.forget2 (i := j) none b2
          refine h v (σ2.set j none) H2 ⟨G2, Fv, F4, (st3.trans s2).less (List.nodup_append.mpr ⟨b1, n4, fun a ha b hb => b3 a ha b (s4 b hb)⟩) fun a ha => ?_, rv, re4, (kp3.trans k2).trans (.set pj)⟩
          rcases List.mem_append.mp ha with z | z
          · exact List.mem_append_left _ z
          · exact List.mem_append_right _ (s4 a z)
        | stuck => rw [ed] at h; exact h.elim
    · rw [hb] at h
      exact ih h σ' kp H' dd ok
theorem s_try {body : List Stmt} {h₀ : ExceptHandler} {hds : List ExceptHandler} {l : List Clause} {b : Ss} {hs : Hs} (ef : ExFacts X T C) (hst : X.stack = X.env :: X.outer) (hf : X.env.frame = some X.env.locals) (hN : X.N.Nodup) (tk : L2.Takes X W)
    (hb : ∀ (W : WX) (pn : List (Addr × Obj)) (xe : Value → Shared → Prop), L2.Takes (X.tr pn xe) W → PassesOwn (model X.prog X.w) X.A X.env xe → PSs (X.tr pn xe) body (tS T W pr (dSs C b)))
    (hh : HsOk X T C pr (h₀ :: hds) hs l) : PS X (.Try body (h₀ :: hds) [] [] pos) (tS T W pr (dS C (.try_ b hs))) := by
  refine ⟨fun pins s σ H DD I h => (ps_try_mix (tb := fun W => tS T W pr (dSs C b)) hst hf hN tk hb hh.hds).run pins s σ H DD I ?_⟩
  obtain ⟨G, ρ, F, P, h⟩ := h
  simp only [dS] at h
  refine ⟨G, ρ, F, P, ?_⟩
  cases e : dSs C b ρ with
  | exc c x ρ' => rw [e] at h; exact hs_ok ef hh I.len h
  | _ => rw [e] at h; exact h
end
end Mp
/-! list(range(..)). -/
namespace Mp
open PySem L2

def rngF (ds : List D) : Option D := match rngD ds with
  | none => none
  | some r => if r.length ≤ line then some (.lst true r) else none
section
variable {X : Cx} {T : Tab} {W : WX} {C : Cfg} {ea eb : Expr} {pos p p2 q : Pos} {a b : O} {σ : L2.St} {H : Hp} {Q : VK}
theorem rng1_den (h : tE T W (dE C (.rng (.cons a .nil))) σ H Q) : tE T W (fun ρ => (dO C a ρ).bind fun (x, o) => op1 (fun d => rngF [d]) x o ρ) σ H Q := by
  obtain ⟨G, ρ, F, P, h⟩ := h
  refine ⟨G, ρ, F, P, ?_⟩
  simp only [dE, dOs] at h
  show Post ((dO C a ρ).bind fun (x, o) => op1 (fun d => rngF [d]) x o ρ) _ _
  cases ea : dO C a ρ with
  | ok q =>
    obtain ⟨x, o⟩ := q
    simp only [ea, R.bind, Option.isNone_none, Bool.or_true, orE, rdL] at h ⊢
    unfold op1
    cases er : x.rd (now ρ o) with
    | none => simp only [er] at h; exact h.elim
    | some d =>
      simp only [er] at h ⊢
      unfold rngF
      cases eg : rngD [d] with
      | none => simp only [eg] at h; exact h.elim
      | some r =>
        simp only [eg] at h ⊢
        split at h
        · rename_i hl
          rw [if_pos hl]
          exact h
        · exact h.elim
  | exc c x r => simp only [ea, R.bind] at h ⊢; exact h
  | stuck => simp only [ea, R.bind] at h; exact h.elim
theorem rng2_den (h : tE T W (dE C (.rng (.cons a (.cons b .nil)))) σ H Q) : tE T W (fun ρ => (dO C a ρ).bind fun (x, o1) => (dO C b (now ρ o1)).bind fun (y, o2) => op2 (fun x y => rngF [x, y]) x y o1 o2 ρ) σ H Q := by
  obtain ⟨G, ρ, F, P, h⟩ := h
  refine ⟨G, ρ, F, P, ?_⟩
  simp only [dE, dOs] at h
  show Post ((dO C a ρ).bind fun (x, o1) => (dO C b (now ρ o1)).bind fun (y, o2) => op2 (fun x y => rngF [x, y]) x y o1 o2 ρ) _ _
  cases ea : dO C a ρ with
  | ok q =>
    obtain ⟨x, o⟩ := q
    simp only [ea, R.bind] at h ⊢
    cases eb : dO C b (now ρ o) with
    | ok q2 =>
      obtain ⟨y, o2⟩ := q2
      simp only [eb, R.bind, Option.isNone_none, Bool.or_true, orE_none] at h ⊢
      unfold op2
      cases fm : (x.firm || o2.isNone) with
      | false => simp only [fm] at h; exact h.elim
      | true =>
        simp only [fm, rdL, ← now_now] at h ⊢
        cases er : x.rd (now (now ρ o) o2) with
        | none => simp only [er] at h; exact h.elim
        | some d =>
          cases er2 : y.rd (now (now ρ o) o2) with
          | none => simp only [er, er2] at h; exact h.elim
          | some d2 =>
            simp only [er, er2] at h ⊢
            unfold rngF
            cases eg : rngD [d, d2] with
            | none => simp only [eg] at h; exact h.elim
            | some r =>
              simp only [eg] at h ⊢
              split at h
              · rename_i hl
                rw [if_pos hl]
                exact h
              · exact h.elim
    | exc c x r => simp only [eb, R.bind] at h ⊢; exact h
    | stuck => simp only [eb, R.bind] at h; exact h.elim
  | exc c x r => simp only [ea, R.bind] at h ⊢; exact h
  | stuck => simp only [ea, R.bind] at h; exact h.elim
theorem rngL_length : ∀ (n : Nat) (lo : Int), (rngL lo n).length = n
  | 0, _ => rfl
  | n + 1, lo => by simp only [rngL, List.length_cons, rngL_length n]
theorem rng_end {G H : Hp} {i j : Int} {Q : VK} {d : D} (ex : Ext G H) (e : (if okR i && okR j then some (rngL i (j - i).toNat) else none) = some (rngL i (j - i).toNat)) (hl : (rngL i (j - i).toNat).length ≤ line) (n : New T G H (.lst true (rngL i (j - i).toNat)) Q) : RgOk i j ∧ ∀ q, H q = none → Q (.ref q) (upd H q (.lst (rgV i j))) := by
  split at e
  · rename_i h
    simp only [okR_eq] at h
    unfold two62 at h
    simp only [Bool.and_eq_true, decide_eq_true_eq] at h
    rw [rngL_length] at hl
    have e2 : line = 2 ^ 24 := rfl
    refine ⟨⟨?_, ?_, ?_, ?_, by omega⟩, fun q hq => n.lst ex (RpL.rng _ i) hq⟩
    · have := h.1.1; omega
    · have := h.1.2; omega
    · have := h.2.1; omega
    · have := h.2.2; omega
  · cases e
theorem e_rng1 (hc : X.calm = true) (hg : Gl X "list") (hm : X.mg "list" = none) (hg2 : Gl X "range") (hm2 : X.mg "range" = none) (ha : PE X ea (tO T W (dO C a))) (pl : plainE ea = true) :
    PE X (.Call (.Name "list" p) [.Call (.Name "range" p2) [ea] [] q] [] pos) (tE T W (dE C (.rng (.cons a .nil)))) := by
  refine (pe_listRg hc hg hm (prg_1 hg2 hm2 ha (star_cons pl [] X.env)) (star_cons rfl [] X.env)).weak fun σ H Q h => ?_
  refine (un_den (sem_op1 T _) (rng1_den h)).mono fun v H1 z => ?_
  obtain ⟨G, dx, d, Fx, ex, qx, e, n⟩ := z
  cases dx with
  | int j =>
    have e0 : rngD [.int j] = if okR j then some (rngL 0 j.toNat) else none := rfl
    have e : rngF [.int j] = some d := e
    unfold rngF at e
    rw [e0] at e
    cases hj : okR j with
    | false => simp only [hj] at e; cases e
    | true =>
      simp only [hj, if_true] at e
      split at e
      · rename_i hl
        cases e
        refine ⟨j, qx.int, ?_⟩
        have e3 : (j - 0).toNat = j.toNat := by simp
        have := rng_end (i := 0) (j := j) (d := .non) ex (by rw [hj, e3]; rfl) (by rw [e3]; exact hl) (by rw [e3]; exact n)
        exact this
      · cases e
  | _ => cases e
theorem e_rng2 (hc : X.calm = true) (hg : Gl X "list") (hm : X.mg "list" = none) (hg2 : Gl X "range") (hm2 : X.mg "range" = none) (ha : PE X ea (tO T W (dO C a))) (hb : PE X eb (tO T W (dO C b))) (pl : plainE ea = true) (pl2 : plainE eb = true) :
    PE X (.Call (.Name "list" p) [.Call (.Name "range" p2) [ea, eb] [] q] [] pos) (tE T W (dE C (.rng (.cons a (.cons b .nil))))) := by
  refine (pe_listRg hc hg hm (prg_2 hg2 hm2 ha hb (star_cons pl [eb] X.env) (star_cons pl2 [] X.env) (star_any (by simp [pl2]) X.env q)) (star_cons rfl [] X.env)).weak fun σ H Q h => ?_
  refine (bi_den (sem_op2 T _) (rng2_den h)).mono fun v H1 z => z.mono fun u H2 z => ?_
  obtain ⟨G, dx, dy, d, Fx, Fy, ex, qx, qy, e, n⟩ := z
  cases dx with
  | int i => cases dy with
    | int j =>
      have e0 : rngD [.int i, .int j] = if okR i && okR j then some (rngL i (j - i).toNat) else none := rfl
      have e : rngF [.int i, .int j] = some d := e
      unfold rngF at e
      rw [e0] at e
      cases hj : (okR i && okR j) with
      | false => simp only [hj] at e; cases e
      | true =>
        simp only [hj, if_true] at e
        split at e
        · rename_i hl
          cases e
          exact ⟨i, j, qx.int, qy.int, rng_end (d := .non) ex (by rw [hj]; rfl) hl n⟩
        · cases e
    | _ => cases e
  | _ => cases e
end
end Mp
/-! The checker: the intermediate form is that of the text. -/
namespace Mp
open PySem L2

/-- what is known of the text around -/
structure Ck where
  N : List Str
  sc : Scope
  fnc : Str → Bool
  fns : List (Nat × Str)
  mes : List (Nat × Nat × Str)
  mks : List (Nat × Nat × Str)
  exs : List (Nat × Str)
  fl : Nat → Str
  nf : Nat
  cls : Bool
def bltNames : List Str := ["len", "abs", "int", "bool", "str", "min", "max", "sum", "list", "tuple", "dict", "sorted", "set", "range", "isinstance", "any", "all"]
section
variable (k : Ck)
def kd (x : Str) : Option NameKind := k.sc.names.lookup x
def visB (x : Str) : Bool := match kd k x with
  | some .local => true | some .cell => true | some .free => true
  | _ => false
def dbg (x : Str) : Bool := !(x == ("__debug__" : Str)) && !(x == ("__classdict__" : Str))
def glB (x : Str) : Bool := decide (kd k x = some .globalImplicit) && !(x == ("__debug__" : Str))
def bltB (x : Str) : Bool := glB k x && bltNames.contains x
def locB (x : Str) : Bool := match kd k x with
  | some .local => true
  | some .cell => k.fnc x
  | _ => false
def nameB (i : Nat) (e : Expr) : Bool := match e with
  | .Name x _ => decide (k.N[i]? = some x) && visB k x && dbg x
  | _ => false
def abB (e : Expr) : Bool := match e with
  | .Call (.Name _ _) [] [] _ => false
  | _ => true
def plT (e : Expr) : Bool := match e with
  | .Name _ _ => true | .Call _ _ _ _ => true | .Attribute _ _ _ => true | .Subscript _ _ _ => true | .BinOp _ _ _ _ => true | .List _ _ => true | .Tuple _ _ _ => true
  | _ => false
def notSet (e : Expr) : Bool := match e with
  | .Set _ _ _ => false
  | _ => true
/-- the call of a built-in by its name: the name, the operands -/
def bltCall (x : Str) (e : Expr) : Option (List Expr) := match e with
  | .Call (.Name y _) as [] _ => if x = y && bltB k x && as.all plainE then some as else none
  | _ => none
def blName : Bl → Option Str
  | .len => some "len" | .abs => some "abs" | .int => some "int" | .bool => some "bool" | .min1 => some "min" | .max1 => some "max" | .min2 => some "min" | .max2 => some "max"
  | .sum => some "sum" | .list => some "list" | .tuple => some "tuple" | .sorted => some "sorted" | .any => some "any" | .all => some "all"
  | _ => none
def bl1 : Bl → Bool
  | .min2 => false | .max2 => false
  | _ => true
def tyName : Ty → Str
  | .int => "int" | .bool => "bool" | .str => "str" | .list => "list" | .tuple => "tuple" | .dict => "dict" | .cls _ => ""
def tyB (t : Ty) (e : Expr) : Bool := match e with
  | .Name x _ => decide (x = tyName t) && bltB k x
  | _ => false
def bmName : Bm → Option Str
  | .append => some "append" | .pop0 => some "pop" | .reverse => some "reverse" | .clear => some "clear" | .setdef => some "setdefault"
  | _ => none
end
def opEq (o : Op) (p : Operator) : Bool := decide (o.py = p)
def cpEq (o : Cp) (p : CmpOp) : Bool := decide (o.py = p)
def ownOf (N : List Str) (own : List Nat) : List (Str × Nat) := own.map fun i => (N.getD i "", i)
/-- the checker's context in a comprehension's block -/
def Ck.blk (k : Ck) (scope : Scope) : Ck := { k with sc := relS scope k.sc, fnc := fun x => scope.names.lookup x == some .cell }
mutual
def cG (k : Ck) (pr : Nat → Bool) : Tg → Expr → Bool
  | .var i, e => match e with
    | .Name x _ => decide (k.N[i]? = some x) && locB k x && !pr i
    | _ => false
  | .tup ts, e => match e with
    | .Tuple es _ _ => cGs k pr ts es && decide (es.length = ts.len)
    | _ => false
def cGs (k : Ck) (pr : Nat → Bool) : Tgs → List Expr → Bool
  | .nil, es => match es with
    | [] => true
    | _ => false
  | .cons t ts, es => match es with
    | e :: es => cG k pr t e && plainE e && cGs k pr ts es
    | _ => false
end
mutual
def cP (k : Ck) : P → Expr → Bool
  | .var i, e => nameB k i e
  | .fld p f, e => match e with
    | .Attribute v a _ => k.cls && decide (f < k.nf) && decide (a = k.fl f) && abB v && cP k p v
    | _ => false
  | .ix p i, e => match e with
    | .Subscript v s _ => notSlice s && cP k p v && cE k i s
    | _ => false
def cO (k : Ck) : O → Expr → Bool
  | .pl p, e => cP k p e
  | .tm x, e => cE k x e
def cOs (k : Ck) : Os → List Expr → Bool
  | .nil, es => match es with
    | [] => true
    | _ => false
  | .cons o os, es => match es with
    | e :: es => cO k o e && plainE e && cOs k os es
    | _ => false
def cEs (k : Ck) : Es → List Expr → Bool
  | .nil, es => match es with
    | [] => true
    | _ => false
  | .cons x xs, es => match es with
    | e :: es => cE k x e && plainE e && cEs k xs es
    | _ => false
/-- a test: the clauses of an and (true), of an or -/
def cT (k : Ck) : T → Bool → List Expr → Bool
  | .tr o, _, es => match es with
    | [e] => plT e && cO k o e
    | _ => false
  | .cmp op a b, _, es => match es with
    | [.Compare l [p] [r] _] => cpEq op p && notSet r && cO k a l && cO k b r
    | _ => false
  | .chain op op' a b c, _, es => match es with
    | [.Compare l [p, q] [r, s] _] => cpEq op p && cpEq op' q && notSet s && cO k a l && cO k b r && cO k c s
    | _ => false
  | .and a b, op, es => match es with
    | [.BoolOp .And (e :: f :: rs) _] => cT k a true [e] && cT k b true (f :: rs)
    | [_] => false
    | e :: rs => op && cT k a true [e] && cT k b true rs
    | [] => false
  | .or a b, op, es => match es with
    | [.BoolOp .Or (e :: f :: rs) _] => cT k a false [e] && cT k b false (f :: rs)
    | [_] => false
    | e :: rs => !op && cT k a false [e] && cT k b false rs
    | [] => false
  | .not a, _, es => match es with
    | [.UnaryOp .Not e _] => cT k a true [e]
    | _ => false
def cE (k : Ck) : E → Expr → Bool
  | .non, e => match e with
    | .Constant .none _ _ => true
    | _ => false
  | .bl b, e => match e with
    | .Constant (.bool c) _ _ => decide (b = c)
    | _ => false
  | .int i, e => match e with
    | .Constant (.int j) _ _ => decide (i = j)
    | _ => false
  | .str s, e => match e with
    | .Constant (.str t) _ _ => decide (s = t)
    | _ => false
  | .rd p, e => cP k p e
  | .mv i, e => nameB k i e
  | .bin op a b, e => match e with
    | .BinOp l p r _ => opEq op p && cO k a l && cO k b r
    | _ => false
  | .neg a, e => match e with
    | .UnaryOp .USub x _ => cO k a x
    | _ => false
  | .inv a, e => match e with
    | .UnaryOp .Invert x _ => cO k a x
    | _ => false
  | .cmp op a b, e => match e with
    | .Compare l [p] [r] _ => cpEq op p && notSet r && cO k a l && cO k b r
    | _ => false
  | .chain op op' a b c, e => match e with
    | .Compare l [p, q] [r, s] _ => cpEq op p && cpEq op' q && notSet s && cO k a l && cO k b r && cO k c s
    | _ => false
  | .andv a b, e => match e with
    | .BoolOp .And [l, r] _ => cE k a l && cE k b r
    | _ => false
  | .orv a b, e => match e with
    | .BoolOp .Or [l, r] _ => cE k a l && cE k b r
    | _ => false
  | .ife t a b, e => match e with
    | .IfExp c l r _ => cT k t true [c] && cE k a l && cE k b r
    | _ => false
  | .sub a i, e => match e with
    | .Subscript v s _ => notSlice s && cO k a v && cO k i s
    | _ => false
  | .slc a lo hi _, e => match e with
    | .Subscript v (.Slice l h none _) _ => cO k a v && (match l with
      | none => cEs k lo []
      | some x => cEs k lo [x]) && (match h with
      | none => cEs k hi []
      | some x => cEs k hi [x])
    | _ => false
  | .lst es, e => match e with
    | .List xs _ => cEs k es xs
    | _ => false
  | .tup es, e => match e with
    | .Tuple xs _ _ => cEs k es xs
    | _ => false
  | .dnew b, e => match e with
    | .Dict [] [] _ => b
    | _ => false
  | .blt b os, e => match b with
    | .lenset => match bltCall k "len" e with
      | some [a] => (match bltCall k "set" a with
        | some [c] => cOs k os [c]
        | _ => false)
      | _ => false
    | .sortedset => match bltCall k "sorted" e with
      | some [a] => (match bltCall k "set" a with
        | some [c] => cOs k os [c]
        | _ => false)
      | _ => false
    | .isinst t => match bltCall k "isinstance" e with
      | some [a, c] => tyB k t c && cOs k os [a]
      | _ => false
    | .isinst2 t u => match bltCall k "isinstance" e with
      | some [a, .Tuple [c, d] _ _] => tyB k t c && tyB k u d && cOs k os [a]
      | _ => false
    | b => match blName b with
      | some x => match bltCall k x e with
        | some [a] => bl1 b && cOs k os [a]
        | some [a, c] => !bl1 b && cOs k os [a, c]
        | _ => false
      | none => false
  | .call f os, e => match e with
    | .Call (.Name x _) as [] _ => decide (k.fns.lookup f = some x) && glB k x && cOs k os as
    | _ => false
  | .make f c _ os, e => match e with
    | .Call (.Name x _) as [] _ => decide (k.mks.lookup f = some (c, x)) && glB k x && cOs k os as && !as.isEmpty
    | _ => false
  | .meth f c a os, e => match e with
    | .Call (.Attribute v m ap) as [] p => decide (k.mes.lookup f = some (c, m)) && k.cls && abB v && cO k a v && cOs k os as && decide (as.length < 30) && (ap.endLine == p.line)
    | _ => false
  | .bm m p es, e => match e with
    | .Call (.Attribute v x ap) as [] q => decide (bmName m = some x) && abB v && cP k p v && cEs k es as && decide (as.length < 30) && (ap.endLine == q.line) && (match m with
      | .append => decide (as.length = 1)
      | .setdef => decide (as.length = 2)
      | _ => as.isEmpty)
    | _ => false
  | .fldv a f, e => match e with
    | .Attribute v x _ => k.cls && decide (f < k.nf) && decide (x = k.fl f) && abB v && cO k a v
    | _ => false
  | .rng os, e => match bltCall k "list" e with
    | some [a] => (match bltCall k "range" a with
      | some [x] => cOs k os [x]
      | some [x, y] => cOs k os [x, y]
      | _ => false)
    | _ => false
  | .lc it tg own cs elt, e => match e with
    | .ListComp el [⟨t, i, ifs, 0⟩] scope _ => cI k it i && notSet i && blkC k.N k.sc scope (ownOf k.N own) && decide own.Nodup && cG (k.blk scope) (fun j => !own.contains j) tg t && cCs (k.blk scope) cs ifs && cE (k.blk scope) elt el
    | _ => false
  | _, _ => false
def cCs (k : Ck) : Cs → List Expr → Bool
  | .nil, es => match es with
    | [] => true
    | _ => false
  | .one t, es => match es with
    | [e] => cT k t true [e]
    | _ => false
def cI (k : Ck) : I → Expr → Bool
  | .seq o, e => cO k o e
  | .lock i, e => nameB k i e
  | .rng1 a, e => match bltCall k "range" e with
    | some [x] => cO k a x
    | _ => false
  | _, _ => false
end
end Mp
/-! The checker is sound: expressions. -/
namespace Mp
open PySem L2

structure Hx (X : Cx) (T : Tab) (W : WX) (C : Cfg) (k : Ck) : Prop where
  N : X.N = k.N
  nd : k.N.Nodup
  sc : X.env.scope = k.sc
  kind : k.sc.kind = .function
  K : X.K = T.K
  un : X.A.units + 65 < cLine
  calm : X.calm = true
  tk : L2.Takes X W
  fnc : ∀ x, k.fnc x = true → X.fn x = true
  blt : ∀ x, bltNames.contains x = true → X.mg x = none
  fl : ∀ f, T.fnm f = k.fl f
  nf : k.nf = T.nf
  cls : k.cls = true → ClsOk X T
  call : ∀ f x, k.fns.lookup f = some x → Callee X T (C.fn f) x
  me : ∀ f c m, k.mes.lookup f = some (c, m) → CalleeM X T (C.fn f) c m
  mak : ∀ f c x, k.mks.lookup f = some (c, x) → Maker X T (C.fn f) c x
section
variable {X : Cx} {T : Tab} {W : WX} {C : Cfg} {k : Ck}
theorem Hx.blk (h : Hx X T W C k) {s : Shared} {H : Hp} {scope : Scope} {Ca : Addr} {cl : List (Str × Addr)} {fp : List Addr} (hk : scope.kind = .function) : Hx (X.blk s H scope (compEnvC scope cl Ca X.env) fp) T WF C (k.blk scope) where
  N := h.N
  nd := h.nd
  sc := by
    show relS scope X.env.scope = relS scope k.sc
    rw [h.sc]
  kind := hk
  K := h.K
  un := h.un
  calm := h.calm
  tk := fun u s' ⟨_, _, _, _, _, _, _, _, _, _, _, _, _, _, _, _, w⟩ => w
  fnc := fun x hx => hx
  blt := h.blt
  fl := h.fl
  nf := h.nf
  cls := fun hc => ⟨(h.cls hc).cls, (h.cls hc).no⟩
  call := fun f x e => ⟨(h.call f x e).ok⟩
  me := fun f c m e => ⟨(h.me f c m e).ok, (h.me f c m e).no⟩
  mak := fun f c x e => ⟨(h.mak f c x e).ok⟩
theorem vis_ok (h : Hx X T W C k) {x : Str} (hv : visB k x = true) : Vis X.env.scope x := by
  unfold visB kd at hv
  rw [← h.sc] at hv
  unfold Vis
  split at hv <;> first | exact .inl (by assumption) | exact .inr (.inl (by assumption)) | exact .inr (.inr (by assumption)) | cases hv
theorem dbg_ok {x : Str} (h : dbg x = true) : (x == ("__debug__" : Str)) = false ∧ (x == ("__classdict__" : Str)) = false := by
  unfold dbg at h
  simpa using h
theorem name_ok (h : Hx X T W C k) {i : Nat} {e : Expr} (hc : nameB k i e = true) : PE X e (tVar i) := by
  unfold nameB at hc
  split at hc
  · simp only [Bool.and_eq_true, decide_eq_true_eq] at hc
    obtain ⟨⟨h1, h2⟩, h3⟩ := hc
    exact pe_var (by rw [h.N]; exact h1) (vis_ok h h2) (dbg_ok h3).1 (dbg_ok h3).2
  · cases hc
theorem gl_ok (h : Hx X T W C k) {x : Str} (hg : glB k x = true) : Gl X x ∧ (x == ("__debug__" : Str)) = false := by
  unfold glB kd at hg
  simp only [Bool.and_eq_true, decide_eq_true_eq, Bool.not_eq_true'] at hg
  refine ⟨?_, hg.2⟩
  unfold Gl Env.kindOf
  rw [h.sc]
  exact hg.1
theorem blt_ok (h : Hx X T W C k) {x : Str} (hb : bltB k x = true) : Gl X x ∧ X.mg x = none := by
  unfold bltB at hb
  rw [Bool.and_eq_true] at hb
  exact ⟨(gl_ok h hb.1).1, h.blt x hb.2⟩
theorem bltCall_ok {x : Str} {e : Expr} {as : List Expr} (hc : bltCall k x e = some as) : ∃ p pos, e = .Call (.Name x p) as [] pos ∧ bltB k x = true ∧ as.all plainE = true := by
  unfold bltCall at hc
  split at hc
  · split at hc
    · rename_i hh
      cases hc
      simp only [Bool.and_eq_true, decide_eq_true_eq] at hh
      obtain ⟨⟨h1, h2⟩, h3⟩ := hh
      subst h1
      exact ⟨_, _, rfl, h2, h3⟩
    · cases hc
  · cases hc
theorem ab_ok {e : Expr} (f : Str) (h : abB e = true) : attributeBase e f X.env (eval e X.env) = eval e X.env := by
  refine attrBase_ok f ?_
  unfold abB at h
  exact h
theorem plT_ok {e : Expr} (h : plT e = true) : ∀ whole, isTrue e X.env whole = (do let v ← whole; standAt e.pos; holding [v] (truthy v)) := by
  intro whole
  cases e <;> first | rfl | cases h
theorem notSet_ok {e : Expr} (h : notSet e = true) (op : CmpOp) : behindInMarks op e = false := by
  cases e <;> first | rfl | cases h
theorem notSetF_ok {e : Expr} (h : notSet e = true) {env : PySem.Env} : ∀ x, foldedSetIterable e env x = pure x := by
  intro x
  cases e <;> first | rfl | cases h
theorem opEq_ok {o : Op} {p : Operator} (h : opEq o p = true) : p = o.py := (of_decide_eq_true h).symm
theorem cpEq_ok {o : Cp} {p : CmpOp} (h : cpEq o p = true) : p = o.py := (of_decide_eq_true h).symm
theorem ix_ok {e : Expr} (h : notSlice e = true) : PlainIx e := by
  refine plainIx_ok ?_
  unfold notSlice at h
  exact h
theorem ty_ok (h : Hx X T W C k) {t : Ty} {e : Expr} (hc : tyB k t e = true) : PE X e (tC (.ty t.nm)) := by
  unfold tyB at hc
  split at hc
  · simp only [Bool.and_eq_true, decide_eq_true_eq] at hc
    obtain ⟨h1, h2⟩ := hc
    subst h1
    obtain ⟨hg, hm⟩ := blt_ok h h2
    cases t with
    | int => exact pe_bltn hg hm PyProof.Rows.boot_int rfl
    | bool => exact pe_bltn hg hm PyProof.Rows.boot_bool rfl
    | str => exact pe_bltn (u := .type "str") hg hm (by decide +kernel) rfl
    | list => exact pe_bltn hg hm PyProof.Rows.boot_list rfl
    | tuple => exact pe_bltn hg hm PyProof.Rows.boot_tuple rfl
    | dict => exact pe_bltn hg hm PyProof.Rows.boot_dict rfl
    | cls c => 
      unfold bltB at h2
      rw [Bool.and_eq_true] at h2
      have h3 : bltNames.contains ("" : Str) = true := h2.2
      exact absurd h3 (by decide)
  · cases hc
/-! ### targets -/
theorem loc_ok (h : Hx X T W C k) {x : Str} (hl : locB k x = true) : Loc X.env.scope x ∧ (X.fn x = true ∨ X.env.scope.names.lookup x = some .local) := by
  unfold locB kd at hl
  rw [← h.sc] at hl
  split at hl
  · exact ⟨.inl (by assumption), .inr (by assumption)⟩
  · exact ⟨.inr (by assumption), .inl (h.fnc x hl)⟩
  · cases hl
mutual
theorem sG {pr : Nat → Bool} (h : Hx X T W C k) : ∀ (t : Tg) {e : Expr}, cG k pr t e = true → PG X e (tG T pr t)
  | .var i, e, hc => by
    simp only [cG] at hc
    split at hc
    · simp only [Bool.and_eq_true, decide_eq_true_eq, Bool.not_eq_true'] at hc
      obtain ⟨⟨h1, h2⟩, h3⟩ := hc
      obtain ⟨l1, l2⟩ := loc_ok h h2
      exact g_var (pg_name (by rw [h.N]; exact h.nd) (by rw [h.N]; exact h1) l1 l2) h3
    · cases hc
  | .tup ts, e, hc => by
    simp only [cG] at hc
    split at hc
    · simp only [Bool.and_eq_true, decide_eq_true_eq] at hc
      have q := sGs h ts hc.1
      exact g_tup h.K h.calm q.1 q.2 hc.2
    · cases hc
theorem sGs {pr : Nat → Bool} (h : Hx X T W C k) : ∀ (ts : Tgs) {es : List Expr}, cGs k pr ts es = true → PGs X es (tGs T pr ts) ∧ es.all plainE = true
  | .nil, es, hc => by
    simp only [cGs] at hc
    split at hc
    · exact ⟨gs_nil, rfl⟩
    · cases hc
  | .cons t ts, es, hc => by
    simp only [cGs] at hc
    split at hc
    · simp only [Bool.and_eq_true] at hc
      have q := sGs h ts hc.2
      exact ⟨gs_cons (sG h t hc.1.1) q.1 hc.1.2, by rw [List.all_cons, hc.1.2, q.2]; rfl⟩
    · cases hc
end
end
end Mp
/-! The checker is sound: expressions, the induction. -/
namespace Mp
open PySem L2

theorem own_map (N : List Str) (own : List Nat) : (ownOf N own).map (·.2) = own := by
  unfold ownOf
  rw [List.map_map]
  exact List.map_id own
section
variable {T : Tab} {C : Cfg}
mutual
theorem sP : ∀ (p : P) {X : Cx} {W : WX} {k : Ck} (h : Hx X T W C k) {e : Expr}, cP k p e = true → PE X e (tO T W (dP C p))
  | .var i, X, W, k, h, e, hc => by
    simp only [cP] at hc
    exact o_var (name_ok h hc)
  | .fld p f, X, W, k, h, e, hc => by
    simp only [cP] at hc
    split at hc
    · simp only [Bool.and_eq_true, decide_eq_true_eq] at hc
      obtain ⟨⟨⟨⟨h1, h2⟩, h3⟩, h4⟩, h5⟩ := hc
      rw [h3, ← h.fl]
      exact o_fld (h.cls h1) (sP p h h5) (ab_ok _ h4)
    · cases hc
  | .ix p i, X, W, k, h, e, hc => by
    simp only [cP] at hc
    split at hc
    · simp only [Bool.and_eq_true] at hc
      obtain ⟨⟨h1, h2⟩, h3⟩ := hc
      exact o_ix h.K (by have := h.un; omega) (sP p h h2) (sE i h h3) (ix_ok h1)
    · cases hc
theorem sO : ∀ (o : O) {X : Cx} {W : WX} {k : Ck} (h : Hx X T W C k) {e : Expr}, cO k o e = true → PE X e (tO T W (dO C o))
  | .pl p, X, W, k, h, e, hc => by
    simp only [cO] at hc
    exact o_pl (sP p h hc)
  | .tm x, X, W, k, h, e, hc => by
    simp only [cO] at hc
    exact o_tm (sE x h hc)
theorem sOs : ∀ (os : Os) {X : Cx} {W : WX} {k : Ck} (h : Hx X T W C k) {es : List Expr}, cOs k os es = true → PA X es (tOs T W (dOs C os)) ∧ es.all plainE = true
  | .nil, X, W, k, h, es, hc => by
    simp only [cOs] at hc
    split at hc
    · exact ⟨os_nil, rfl⟩
    · cases hc
  | .cons o os, X, W, k, h, es, hc => by
    simp only [cOs] at hc
    split at hc
    · simp only [Bool.and_eq_true] at hc
      have q := sOs os h hc.2
      exact ⟨os_cons (sO o h hc.1.1) q.1 hc.1.2, by rw [List.all_cons, hc.1.2, q.2]; rfl⟩
    · cases hc
theorem sEs : ∀ (xs : Es) {X : Cx} {W : WX} {k : Ck} (h : Hx X T W C k) {es : List Expr}, cEs k xs es = true → PA X es (tEs T W (dEs C xs)) ∧ es.all plainE = true
  | .nil, X, W, k, h, es, hc => by
    simp only [cEs] at hc
    split at hc
    · exact ⟨es_nil, rfl⟩
    · cases hc
  | .cons x xs, X, W, k, h, es, hc => by
    simp only [cEs] at hc
    split at hc
    · simp only [Bool.and_eq_true] at hc
      have q := sEs xs h hc.2
      exact ⟨es_cons (sE x h hc.1.1) q.1 hc.1.2, by rw [List.all_cons, hc.1.2, q.2]; rfl⟩
    · cases hc
theorem sT : ∀ (t : Mp.T) {X : Cx} {W : WX} {k : Ck} (h : Hx X T W C k) {op : Bool} {es : List Expr}, cT k t op es = true → (∀ e, es = [e] → PT X e (tB' T W (dT C t))) ∧ (op = true → es ≠ [] → ∀ pos, PW X (.BoolOp .And es pos) (tB' T W (dT C t))) ∧ (op = false → es ≠ [] → ∀ pos, PW X (.BoolOp .Or es pos) (tB' T W (dT C t)))
  | .tr o, X, W, k, h, op, es, hc => by
    simp only [cT] at hc
    split at hc
    · simp only [Bool.and_eq_true] at hc
      have q : PT X _ (tB' T W (dT C (.tr o))) := (t_truth h.K (sO o h hc.2) (plT_ok hc.1)).weak fun σ H Q hh => by simp only [dT] at hh; exact hh
      exact ⟨fun e he => by cases he; exact q, fun _ _ pos => pw_and1 q, fun _ _ pos => pw_or1 q⟩
    · cases hc
  | .cmp o a b, X, W, k, h, op, es, hc => by
    simp only [cT] at hc
    split at hc
    · simp only [Bool.and_eq_true] at hc
      obtain ⟨⟨⟨h1, h2⟩, h3⟩, h4⟩ := hc
      have e1 := cpEq_ok h1
      subst e1
      have q := fun pos => t_cmp (pos := pos) (or_cmp h.K h.un o) (sO a h h3) (sO b h h4) (notSet_ok h2 _)
      exact ⟨fun e he => by cases he; exact q _, fun _ _ pos => pw_and1 (q _), fun _ _ pos => pw_or1 (q _)⟩
    · cases hc
  | .chain o o' a b c, X, W, k, h, op, es, hc => by
    simp only [cT] at hc
    split at hc
    · simp only [Bool.and_eq_true] at hc
      obtain ⟨⟨⟨⟨⟨h1, h2⟩, h3⟩, h4⟩, h5⟩, h6⟩ := hc
      have e1 := cpEq_ok h1
      have e2 := cpEq_ok h2
      subst e1 e2
      have q := fun pos => t_chain (pos := pos) (or_cmp h.K h.un o) (or_cmp h.K h.un o') (sO a h h4) (sO b h h5) (sO c h h6) (notSet_ok h3 _)
      exact ⟨fun e he => by cases he; exact q _, fun _ _ pos => pw_and1 (q _), fun _ _ pos => pw_or1 (q _)⟩
    · cases hc
  | .and a b, X, W, k, h, op, es, hc => by
    simp only [cT] at hc
    split at hc
    · rename_i e f rs pp
      simp only [Bool.and_eq_true] at hc
      have q := fun pos => t_and (pos := pos) ((sT a h hc.1).1 _ rfl) ((sT b h hc.2).2.1 rfl (by simp) pos)
      exact ⟨fun e he => by cases he; exact (q _).pt, fun _ _ pos => pw_and1 (q _).pt, fun _ _ pos => pw_or1 (q _).pt⟩
    · cases hc
    · rename_i e rs _ hne
      simp only [Bool.and_eq_true] at hc
      cases rs with
      | nil => exact absurd rfl hne
      | cons f rs =>
        have q := fun pos => t_and (pos := pos) ((sT a h hc.1.2).1 _ rfl) ((sT b h hc.2).2.1 rfl (by simp) pos)
        exact ⟨(fun e he => by cases he), fun _ _ pos => q pos, fun z => (by rw [z] at hc; cases hc.1.1)⟩
    · cases hc
  | .or a b, X, W, k, h, op, es, hc => by
    simp only [cT] at hc
    split at hc
    · rename_i e f rs pp
      simp only [Bool.and_eq_true] at hc
      have q := fun pos => t_or (pos := pos) ((sT a h hc.1).1 _ rfl) ((sT b h hc.2).2.2 rfl (by simp) pos)
      exact ⟨fun e he => by cases he; exact (q _).pt, fun _ _ pos => pw_and1 (q _).pt, fun _ _ pos => pw_or1 (q _).pt⟩
    · cases hc
    · rename_i e rs _ hne
      simp only [Bool.and_eq_true] at hc
      cases rs with
      | nil => exact absurd rfl hne
      | cons f rs =>
        have q := fun pos => t_or (pos := pos) ((sT a h hc.1.2).1 _ rfl) ((sT b h hc.2).2.2 rfl (by simp) pos)
        exact ⟨(fun e he => by cases he), fun z => (by rw [z] at hc; cases hc.1.1), fun _ _ pos => q pos⟩
    · cases hc
  | .not a, X, W, k, h, op, es, hc => by
    simp only [cT] at hc
    split at hc
    · have q := fun pos => t_not (pos := pos) ((sT a h hc).1 _ rfl)
      exact ⟨fun e he => by cases he; exact q _, fun _ _ pos => pw_and1 (q _), fun _ _ pos => pw_or1 (q _)⟩
    · cases hc
theorem sE : ∀ (x : E) {X : Cx} {W : WX} {k : Ck} (h : Hx X T W C k) {e : Expr}, cE k x e = true → PE X e (tE T W (dE C x))
  | .non, X, W, k, h, e, hc => by
    simp only [cE] at hc
    split at hc
    · exact (e_C (d := .non) pe_non fun G H => ⟨rfl, rfl⟩).weak fun σ H Q hh => by simp only [dE] at hh; exact hh
    · cases hc
  | .bl b, X, W, k, h, e, hc => by
    simp only [cE] at hc
    split at hc
    · have e1 := of_decide_eq_true hc
      subst e1
      exact (e_C (d := .bl b) pe_bl fun G H => ⟨rfl, rfl⟩).weak fun σ H Q hh => by simp only [dE] at hh; exact hh
    · cases hc
  | .int i, X, W, k, h, e, hc => by
    simp only [cE] at hc
    split at hc
    · have e1 := of_decide_eq_true hc
      subst e1
      exact (e_C (d := .int i) pe_int fun G H => ⟨rfl, rfl⟩).weak fun σ H Q hh => by simp only [dE] at hh; exact hh
    · cases hc
  | .str s, X, W, k, h, e, hc => by
    simp only [cE] at hc
    split at hc
    · have e1 := of_decide_eq_true hc
      subst e1
      exact (e_C (d := .str s) pe_str fun G H => ⟨rfl, rfl⟩).weak fun σ H Q hh => by simp only [dE] at hh; exact hh
    · cases hc
  | .glob g, X, W, k, h, e, hc => by simp only [cE] at hc; cases hc
  | .rd p, X, W, k, h, e, hc => by
    simp only [cE] at hc
    exact e_rd (sP p h hc)
  | .mv i, X, W, k, h, e, hc => by
    simp only [cE] at hc
    exact e_mv (name_ok h hc)
  | .bin op a b, X, W, k, h, e, hc => by
    simp only [cE] at hc
    split at hc
    · simp only [Bool.and_eq_true] at hc
      have e1 := opEq_ok hc.1.1
      subst e1
      exact e_bin (or_bin h.K op) (sO a h hc.1.2) (sO b h hc.2)
    · cases hc
  | .neg a, X, W, k, h, e, hc => by
    simp only [cE] at hc
    split at hc
    · exact e_neg (sO a h hc)
    · cases hc
  | .inv a, X, W, k, h, e, hc => by
    simp only [cE] at hc
    split at hc
    · exact e_inv (sO a h hc)
    · cases hc
  | .cmp o a b, X, W, k, h, e, hc => by
    simp only [cE] at hc
    split at hc
    · simp only [Bool.and_eq_true] at hc
      obtain ⟨⟨⟨h1, h2⟩, h3⟩, h4⟩ := hc
      have e1 := cpEq_ok h1
      subst e1
      exact e_cmp (or_cmp h.K h.un o) (sO a h h3) (sO b h h4) (notSet_ok h2 _)
    · cases hc
  | .chain o o' a b c, X, W, k, h, e, hc => by
    simp only [cE] at hc
    split at hc
    · simp only [Bool.and_eq_true] at hc
      obtain ⟨⟨⟨⟨⟨h1, h2⟩, h3⟩, h4⟩, h5⟩, h6⟩ := hc
      have e1 := cpEq_ok h1
      have e2 := cpEq_ok h2
      subst e1 e2
      exact e_chain (or_cmp h.K h.un o) (or_cmp h.K h.un o') (sO a h h4) (sO b h h5) (sO c h h6) (notSet_ok h3 _)
    · cases hc
  | .andv a b, X, W, k, h, e, hc => by
    simp only [cE] at hc
    split at hc
    · simp only [Bool.and_eq_true] at hc
      exact e_andv (sE a h hc.1) (pe_one (sE b h hc.2))
    · cases hc
  | .orv a b, X, W, k, h, e, hc => by
    simp only [cE] at hc
    split at hc
    · simp only [Bool.and_eq_true] at hc
      exact e_orv (sE a h hc.1) (pe_one (sE b h hc.2))
    · cases hc
  | .notv a, X, W, k, h, e, hc => by simp only [cE] at hc; cases hc
  | .ife t a b, X, W, k, h, e, hc => by
    simp only [cE] at hc
    split at hc
    · simp only [Bool.and_eq_true] at hc
      exact e_ife ((sT t h hc.1.1).1 _ rfl) (sE a h hc.1.2) (sE b h hc.2)
    · cases hc
  | .sub a i, X, W, k, h, e, hc => by
    simp only [cE] at hc
    split at hc
    · simp only [Bool.and_eq_true] at hc
      exact e_sub h.K (by have := h.un; omega) (sO a h hc.1.2) (sO i h hc.2) (ix_ok hc.1.1)
    · cases hc
  | .slc a lo hi n, X, W, k, h, e, hc => by
    simp only [cE] at hc
    split at hc
    · simp only [Bool.and_eq_true] at hc
      refine e_slc h.K (sO a h hc.1.1) ?_ ?_
      · have q := hc.1.2
        split at q
        · cases lo with
          | nil => exact opt_none
          | cons x xs => simp only [cEs] at q; cases q
        · cases lo with
          | nil => simp only [cEs] at q; cases q
          | cons x xs =>
            simp only [cEs, Bool.and_eq_true] at q
            cases xs with
            | nil => exact opt_some (sE x h q.1.1)
            | cons y ys => simp only [cEs] at q; cases q.2
      · have q := hc.2
        split at q
        · cases hi with
          | nil => exact opt_none
          | cons x xs => simp only [cEs] at q; cases q
        · cases hi with
          | nil => simp only [cEs] at q; cases q
          | cons x xs =>
            simp only [cEs, Bool.and_eq_true] at q
            cases xs with
            | nil => exact opt_some (sE x h q.1.1)
            | cons y ys => simp only [cEs] at q; cases q.2
    · cases hc
  | .rev a, X, W, k, h, e, hc => by simp only [cE] at hc; cases hc
  | .lst es, X, W, k, h, e, hc => by
    simp only [cE] at hc
    split at hc
    · exact e_lst (sEs es h hc).1
    · cases hc
  | .tup es, X, W, k, h, e, hc => by
    simp only [cE] at hc
    split at hc
    · exact e_tup (sEs es h hc).1
    · cases hc
  | .dnew b, X, W, k, h, e, hc => by
    simp only [cE] at hc
    split at hc
    · subst hc
      exact e_dnew
    · cases hc
  | .blt b os, X, W, k, h, e, hc => by
    have one : ∀ {x : Str} {a : Expr}, blName b = some x → bltCall k x e = some [a] → bl1 b = true → cOs k os [a] = true → PE X e (tE T W (dE C (.blt b os))) := by
      intro x a hx hb h1 ho
      obtain ⟨p, pos, rfl, hb, pl⟩ := bltCall_ok hb
      obtain ⟨hg, hm⟩ := blt_ok h hb
      have pl : plainE a = true := by simpa using pl
      cases os with
      | nil => simp only [cOs] at ho; cases ho
      | cons o os =>
        cases os with
        | cons o2 os => simp only [cOs, Bool.and_eq_true] at ho; cases ho.2
        | nil =>
          simp only [cOs, Bool.and_eq_true] at ho
          have ha := sO o h (W := W) ho.1.1
          cases b <;> first | cases hx; done | cases h1; done | skip
          · cases hx; exact e_callB1 (cr_len h.K) hg hm PySem.boot_len ha pl
          · cases hx; exact e_callB1 cr_abs hg hm PyProof.Rows.boot_abs ha pl
          · cases hx; exact e_callT1 cr_int hg hm PyProof.Rows.boot_int ha pl
          · cases hx; exact e_callT1 cr_bool hg hm PyProof.Rows.boot_bool ha pl
          · cases hx; exact e_callB1 (cr_min1 h.K h.calm) hg hm PyProof.Rows.boot_min ha pl
          · cases hx; exact e_callB1 (cr_max1 h.K h.calm) hg hm PyProof.Rows.boot_max ha pl
          · cases hx; exact e_callB1 (cr_sumL h.K h.calm) hg hm PyProof.Rows.boot_sum ha pl
          · cases hx; exact e_callT1 (cr_listL h.K h.calm) hg hm PyProof.Rows.boot_list ha pl
          · cases hx; exact e_callT1 (cr_tupleL h.K h.calm) hg hm PyProof.Rows.boot_tuple ha pl
          · cases hx; exact e_callB1 (cr_sortedL h.calm) hg hm PyProof.Rows.boot_sorted ha pl
          · cases hx; exact e_callB1 (cr_anyL h.calm) hg hm PyProof.Rows.boot_any ha pl
          · cases hx; exact e_callB1 (cr_allL h.calm) hg hm PyProof.Rows.boot_all ha pl
    have two : ∀ {x : Str} {a c : Expr}, blName b = some x → bltCall k x e = some [a, c] → bl1 b = false → cOs k os [a, c] = true → PE X e (tE T W (dE C (.blt b os))) := by
      intro x a c hx hb h1 ho
      obtain ⟨p, pos, rfl, hb, pl⟩ := bltCall_ok hb
      obtain ⟨hg, hm⟩ := blt_ok h hb
      have pl : plainE a = true ∧ plainE c = true := by simpa using pl
      cases os with
      | nil => simp only [cOs] at ho; cases ho
      | cons o os =>
        cases os with
        | nil => simp only [cOs, Bool.and_eq_true] at ho; cases ho.2
        | cons o2 os =>
          cases os with
          | cons o3 os => simp only [cOs, Bool.and_eq_true] at ho; cases ho.2.2
          | nil =>
            simp only [cOs, Bool.and_eq_true] at ho
            have ha := sO o h (W := W) ho.1.1
            have hc2 := sO o2 h (W := W) ho.2.1.1
            cases b <;> first | cases hx; done | cases h1; done | skip
            · cases hx; exact e_callB2 (cr_min2 h.calm) hg hm PyProof.Rows.boot_min ha hc2 pl.1 pl.2
            · cases hx; exact e_callB2 (cr_max2 h.calm) hg hm PyProof.Rows.boot_max ha hc2 pl.1 pl.2
    have op1 : ∀ {a : Expr}, cOs k os [a] = true → ∃ o, os = .cons o .nil ∧ PE X a (tO T W (dO C o)) ∧ plainE a = true := by
      intro a ho
      cases os with
      | nil => simp only [cOs] at ho; cases ho
      | cons o os =>
        cases os with
        | cons o2 os => simp only [cOs, Bool.and_eq_true] at ho; cases ho.2
        | nil =>
          simp only [cOs, Bool.and_eq_true] at ho
          exact ⟨o, rfl, sO o h ho.1.1, ho.1.2⟩
    simp only [cE] at hc
    split at hc
    · -- len(set(..))
      split at hc
      · rename_i a ha
        obtain ⟨p, pos, rfl, hb, pl⟩ := bltCall_ok ha
        obtain ⟨hg, hm⟩ := blt_ok h hb
        split at hc
        · rename_i c hcc
          obtain ⟨p2, pos2, rfl, hb2, pl2⟩ := bltCall_ok hcc
          obtain ⟨hg2, hm2⟩ := blt_ok h hb2
          obtain ⟨o, rfl, q, pl3⟩ := op1 hc
          exact e_lenset h.calm hg hm hg2 hm2 q pl3
        · cases hc
      · cases hc
    · split at hc
      · rename_i a ha
        obtain ⟨p, pos, rfl, hb, pl⟩ := bltCall_ok ha
        obtain ⟨hg, hm⟩ := blt_ok h hb
        split at hc
        · rename_i c hcc
          obtain ⟨p2, pos2, rfl, hb2, pl2⟩ := bltCall_ok hcc
          obtain ⟨hg2, hm2⟩ := blt_ok h hb2
          obtain ⟨o, rfl, q, pl3⟩ := op1 hc
          exact e_sortedset h.calm hg hm hg2 hm2 q pl3
        · cases hc
      · cases hc
    · split at hc
      · rename_i t a c ha
        obtain ⟨p, pos, rfl, hb, pl⟩ := bltCall_ok ha
        obtain ⟨hg, hm⟩ := blt_ok h hb
        simp only [Bool.and_eq_true] at hc
        obtain ⟨o, rfl, q, pl3⟩ := op1 hc.2
        have pl : plainE a = true ∧ plainE c = true := by simpa using pl
        exact e_isinst h.K hg hm q (ty_ok h hc.1) pl.1 pl.2
      · cases hc
    · split at hc
      · rename_i t u a c d x1 p3 ha
        obtain ⟨p, pos, rfl, hb, pl⟩ := bltCall_ok ha
        obtain ⟨hg, hm⟩ := blt_ok h hb
        simp only [Bool.and_eq_true] at hc
        obtain ⟨o, rfl, q, pl3⟩ := op1 hc.2
        have plc : plainE c = true := by
          have q := hc.1.1
          unfold tyB at q
          split at q <;> first | rfl | cases q
        have pld : plainE d = true := by
          have q := hc.1.2
          unfold tyB at q
          split at q <;> first | rfl | cases q
        exact e_isinst2 h.K hg hm q (ty_ok h hc.1.1) (ty_ok h hc.1.2) pl3 plc pld
      · cases hc
    · split at hc
      · rename_i x hx
        split at hc
        · rename_i a hb
          simp only [Bool.and_eq_true] at hc
          exact one hx hb hc.1 hc.2
        · rename_i a c hb
          simp only [Bool.and_eq_true, Bool.not_eq_true'] at hc
          exact two hx hb hc.1 hc.2
        · cases hc
      · cases hc
  | .call f os, X, W, k, h, e, hc => by
    simp only [cE] at hc
    split at hc
    · rename_i x p as pos
      simp only [Bool.and_eq_true, decide_eq_true_eq] at hc
      obtain ⟨⟨h1, h2⟩, h3⟩ := hc
      obtain ⟨g1, g2⟩ := gl_ok h h2
      have q := sOs os h h3
      cases as with
      | nil =>
        cases os with
        | nil => exact e_call0 (h.call f x h1) h.tk g1 g2
        | cons o os => simp only [cOs] at h3; cases h3
      | cons a as => exact e_call (h.call f x h1) h.tk g1 g2 q.1 q.2
    · cases hc
  | .make f c z os, X, W, k, h, e, hc => by
    simp only [cE] at hc
    split at hc
    · rename_i x p as pos
      simp only [Bool.and_eq_true, decide_eq_true_eq] at hc
      obtain ⟨⟨⟨h1, h2⟩, h3⟩, h4⟩ := hc
      obtain ⟨g1, g2⟩ := gl_ok h h2
      have q := sOs os h h3
      cases as with
      | nil => cases h4
      | cons a as => exact e_make (h.mak f c x h1) h.tk g1 g2 q.1 q.2
    · cases hc
  | .meth f c a os, X, W, k, h, e, hc => by
    simp only [cE] at hc
    split at hc
    · rename_i v m ap as p
      simp only [Bool.and_eq_true, decide_eq_true_eq] at hc
      obtain ⟨⟨⟨⟨⟨⟨h1, h2⟩, h3⟩, h4⟩, h5⟩, h6⟩, h7⟩ := hc
      have q := sOs os h h5
      cases as with
      | nil =>
        cases os with
        | nil => exact e_meth0 (h.cls h2) (h.me f c m h1) h.tk (sO a h h4) (ab_ok _ h3) h7
        | cons o os => simp only [cOs] at h5; cases h5
      | cons x as => exact e_meth (h.cls h2) (h.me f c m h1) h.tk (sO a h h4) q.1 (ab_ok _ h3) q.2 h6 h7
    · cases hc
  | .bm m p es, X, W, k, h, e, hc => by
    simp only [cE] at hc
    split at hc
    · rename_i v x ap as q
      simp only [Bool.and_eq_true, decide_eq_true_eq] at hc
      obtain ⟨⟨⟨⟨⟨⟨h1, h2⟩, h3⟩, h4⟩, h5⟩, h6⟩, h7⟩ := hc
      have ho := sP p h (W := W) h3
      have ha := sEs es h (W := W) h4
      cases m <;> first | cases h1; done | skip
      · -- append
        cases h1
        cases as with
        | nil => cases h7
        | cons a as => exact e_bmL bm_append rfl PySem.F.slot_list_append PySem.F.type_list_append mt_append ho ha.1 (ab_ok _ h2) ha.2 h5 h6
      · cases h1
        cases as with
        | cons a as => cases h7
        | nil =>
          cases es with
          | cons x xs => simp only [cEs] at h4; cases h4
          | nil => exact e_bmL0 bm_pop0 rfl PySem.F.slot_list_pop PySem.F.type_list_pop mt_pop ho (ab_ok _ h2) h6
      · cases h1
        cases as with
        | cons a as => cases h7
        | nil =>
          cases es with
          | cons x xs => simp only [cEs] at h4; cases h4
          | nil => exact e_bmL0 bm_reverse rfl PySem.F.slot_list_reverse PySem.F.type_list_reverse mt_reverse ho (ab_ok _ h2) h6
      · cases h1
        cases as with
        | cons a as => cases h7
        | nil =>
          cases es with
          | cons x xs => simp only [cEs] at h4; cases h4
          | nil => exact e_bmL0 bm_clear rfl PySem.F.slot_list_clear PySem.F.type_list_clear mt_clear ho (ab_ok _ h2) h6
      · cases h1
        cases es with
        | nil => cases as with
          | nil => cases h7
          | cons a as => simp only [cEs] at h4; cases h4
        | cons x xs =>
          cases xs with
          | nil =>
            cases as with
            | nil => cases h7
            | cons a as =>
              cases as with
              | nil => cases h7
              | cons b as => simp only [cEs, Bool.and_eq_true] at h4; cases h4.2
          | cons y ys =>
            cases as with
            | nil => cases h7
            | cons a as =>
              cases as with
              | nil => cases h7
              | cons b as =>
                cases as with
                | cons c as => simp at h7
                | nil =>
                  cases ys with
                  | cons z zs => simp only [cEs, Bool.and_eq_true] at h4; cases h4.2.2
                  | nil =>
                    have h44 := h4
                    simp only [cEs, Bool.and_eq_true] at h44
                    exact e_setdef ho (sE x h h44.1.1) (sE y h h44.2.1.1) (ab_ok _ h2) ha.2 h6
    · cases hc
  | .fldv a f, X, W, k, h, e, hc => by
    simp only [cE] at hc
    split at hc
    · simp only [Bool.and_eq_true, decide_eq_true_eq] at hc
      obtain ⟨⟨⟨⟨h1, h2⟩, h3⟩, h4⟩, h5⟩ := hc
      rw [h3, ← h.fl]
      exact e_fldv (h.cls h1) (sO a h h5) (ab_ok _ h4)
    · cases hc
  | .rng os, X, W, k, h, e, hc => by
    simp only [cE] at hc
    split at hc
    · rename_i a ha
      obtain ⟨p, pos, rfl, hb, pl⟩ := bltCall_ok ha
      obtain ⟨hg, hm⟩ := blt_ok h hb
      split at hc
      · rename_i x hx
        obtain ⟨p2, pos2, rfl, hb2, pl2⟩ := bltCall_ok hx
        obtain ⟨hg2, hm2⟩ := blt_ok h hb2
        have pl2 : plainE x = true := by simpa using pl2
        cases os with
        | nil => simp only [cOs] at hc; cases hc
        | cons o os =>
          cases os with
          | cons o2 os => simp only [cOs, Bool.and_eq_true] at hc; cases hc.2
          | nil =>
            simp only [cOs, Bool.and_eq_true] at hc
            exact e_rng1 h.calm hg hm hg2 hm2 (sO o h hc.1.1) pl2
      · rename_i x y hx
        obtain ⟨p2, pos2, rfl, hb2, pl2⟩ := bltCall_ok hx
        obtain ⟨hg2, hm2⟩ := blt_ok h hb2
        have pl2 : plainE x = true ∧ plainE y = true := by simpa using pl2
        cases os with
        | nil => simp only [cOs] at hc; cases hc
        | cons o os =>
          cases os with
          | nil => simp only [cOs, Bool.and_eq_true] at hc; cases hc.2
          | cons o2 os =>
            cases os with
            | cons o3 os => simp only [cOs, Bool.and_eq_true] at hc; cases hc.2.2
            | nil =>
              simp only [cOs, Bool.and_eq_true] at hc
              exact e_rng2 h.calm hg hm hg2 hm2 (sO o h hc.1.1) (sO o2 h hc.2.1.1) pl2.1 pl2.2
      · cases hc
    · cases hc
  | .lc it tg own cs elt, X, W, k, h, e, hc => by
    simp only [cE] at hc
    split at hc
    · rename_i el t i ifs scope pp
      simp only [Bool.and_eq_true, decide_eq_true_eq] at hc
      obtain ⟨⟨⟨⟨⟨⟨h1, h2⟩, h3⟩, h4⟩, h5⟩, h6⟩, h7⟩ := hc
      have bk := blkOk_by h3
      have ow := own_map k.N own
      have := e_lc (W := W) (own := ownOf k.N own) (pos := pp) h.calm (by rw [h.N]; exact h.nd) (sI it h h1) (by rw [h.N, h.sc]; exact bk) (by rw [ow]; exact h4)
        (tg := tg) (fun s H Ca cl fp => by rw [ow]; exact sG (h.blk bk.kind) tg h5) (fun s H Ca cl fp => sCs cs (h.blk bk.kind) h6) (fun s H Ca cl fp => sE elt (h.blk bk.kind) h7) (notSetF_ok h2)
      rw [ow] at this
      exact this
    · cases hc
  | .lc2 _ _ _ _ _ _ _ _ _, X, W, k, h, e, hc => by simp only [cE] at hc; cases hc
  | .dc _ _ _ _ _ _ _, X, W, k, h, e, hc => by simp only [cE] at hc; cases hc
theorem sCs : ∀ (cs : Cs) {X : Cx} {W : WX} {k : Ck} (h : Hx X T W C k) {es : List Expr}, cCs k cs es = true → PTs X es (tB' T W (dCs C cs))
  | .nil, X, W, k, h, es, hc => by
    simp only [cCs] at hc
    split at hc
    · exact cs_nil
    · cases hc
  | .one t, X, W, k, h, es, hc => by
    simp only [cCs] at hc
    split at hc
    · exact cs_one ((sT t h hc).1 _ rfl)
    · cases hc
theorem sI : ∀ (it : I) {X : Cx} {W : WX} {k : Ck} (h : Hx X T W C k) {tg e : Expr}, cI k it e = true → PI X tg e (tI T W it (dI C it))
  | .seq o, X, W, k, h, tg, e, hc => by
    simp only [cI] at hc
    exact i_seq h.K (sO o h hc)
  | .lock i, X, W, k, h, tg, e, hc => by
    simp only [cI] at hc
    exact i_lock h.K (name_ok h hc)
  | .rng1 a, X, W, k, h, tg, e, hc => by
    simp only [cI] at hc
    split at hc
    · rename_i x hb
      obtain ⟨p, pos, rfl, hb, pl⟩ := bltCall_ok hb
      obtain ⟨hg, hm⟩ := blt_ok h hb
      exact i_rng1 hg hm (sO a h hc) (by simpa using pl)
    · cases hc
  | .rng2 _ _, X, W, k, h, tg, e, hc => by simp only [cI] at hc; cases hc
  | .rng3 _ _ _, X, W, k, h, tg, e, hc => by simp only [cI] at hc; cases hc
  | .enum _, X, W, k, h, tg, e, hc => by simp only [cI] at hc; cases hc
  | .zip _ _, X, W, k, h, tg, e, hc => by simp only [cI] at hc; cases hc
  | .items _, X, W, k, h, tg, e, hc => by simp only [cI] at hc; cases hc
  | .keys _, X, W, k, h, tg, e, hc => by simp only [cI] at hc; cases hc
  | .vals _, X, W, k, h, tg, e, hc => by simp only [cI] at hc; cases hc
  | .revs _, X, W, k, h, tg, e, hc => by simp only [cI] at hc; cases hc
end
end
end Mp
/-! The checker for statements, and its soundness. -/
namespace Mp
open PySem L2

def notComp (e : Expr) : Bool := match e with
  | .ListComp _ _ _ _ => false | .SetComp _ _ _ _ => false | .DictComp _ _ _ _ _ => false
  | _ => true
def noSwap (t v : Expr) : Bool := match t with
  | .Tuple _ _ _ => (match v with
    | .Tuple _ _ _ => false
    | _ => true)
  | .List _ _ => false
  | _ => true
/-- the exceptions' names: their field, which are named, which are raised -/
structure Cx2 where
  xfn : Str
  xns : List (Nat × Str)
  rss : List (Nat × Str)
def cXe (xfn : Str) (n : Option Str) : Xe → Expr → Bool
  | .what, e => match e with
    | .Attribute (.Name x _) f _ => decide (n = some x) && decide (f = xfn)
    | _ => false
  | .str s, e => match e with
    | .Constant (.str t) _ _ => decide (s = t)
    | _ => false
  | .bl b, e => match e with
    | .Constant (.bool c) _ _ => decide (b = c)
    | _ => false
  | .pair a b, e => match e with
    | .Tuple [l, r] _ _ => cXe xfn n a l && cXe xfn n b r && plainE l && plainE r
    | _ => false
  | _, _ => false
def cXs (xfn : Str) (n : Option Str) : Xs → List Stmt → Bool
  | .ret e, ss => match ss with
    | [.Return (some x) _] => cXe xfn n e x
    | _ => false
  | .pass, ss => match ss with
    | [.Pass _] => true
    | _ => false
  | _, _ => false
mutual
def cS (k : Ck) (q : Cx2) : S → (Nat → Bool) → Stmt → Bool
  | .asg t e, pr, st => match st with
    | .Assign [et] ea pos => (match t, e, et, ea with
      | .var i, .lc it tg own cs elt, .Name y py, .ListComp el [⟨t', i', ifs, 0⟩] scope p2 =>
        if kd k y = some .local then
          decide (k.N[i]? = some y) && !pr i && (py.line == p2.line) && !(scope.names.any fun (n, k) => n == y && (k == .local || k == .cell)) && cE k (.lc it tg own cs elt) ea
        else cG k pr (.var i) et && cE k (.lc it tg own cs elt) ea
      | _, _, _, _ => notComp ea && noSwap et ea && plainE et && cG k pr t et && cE k e ea)
    | _ => false
  | .sfld p f e, pr, st => match st with
    | .Assign [.Attribute v a _] ea _ => notComp ea && k.cls && decide (f < k.nf) && decide (a = k.fl f) && cP k p v && cE k e ea
    | _ => false
  | .six p i e, pr, st => match st with
    | .Assign [.Subscript v s _] ea _ => notComp ea && notSlice s && cP k p v && cE k i s && cE k e ea
    | _ => false
  | .ex e, pr, st => match st with
    | .Expr x _ => notComp x && cE k e x
    | _ => false
  | .iff t a b, pr, st => match st with
    | .If c x y _ => cT k t true [c] && cSs k q a pr x && cSs k q b pr y
    | _ => false
  | .for_ it tg body, pr, st => match st with
    | .For t i b [] _ => cI k it i && notSet i && cG k (prL pr it) tg t && cSs k q body (prL pr it) b
    | _ => false
  | .whl t body, pr, st => match st with
    | .While c b [] _ => cT k t true [c] && cSs k q body pr b
    | _ => false
  | .ret e, pr, st => match st with
    | .Return (some x) _ => cE k e x
    | _ => false
  | .retN, pr, st => match st with
    | .Return none _ => true
    | _ => false
  | .rs c es, pr, st => match st with
    | .Raise (some (.Call (.Name x _) [a] [] _)) none _ => decide (q.rss.lookup c = some x) && glB k x && plainE a && cEs k es [a]
    | _ => false
  | .try_ b hs, pr, st => match st with
    | .Try body (h :: hds) [] [] _ => cSs k q b pr body && cHs k q hs pr (h :: hds)
    | _ => false
  | .brk, pr, st => match st with
    | .Break _ => true
    | _ => false
  | .cnt, pr, st => match st with
    | .Continue _ => true
    | _ => false
  | .pass, pr, st => match st with
    | .Pass _ => true
    | .Expr (.Constant (.str _) _ _) _ => true
    | _ => false
  | .never, _, _ => true
  | _, _, _ => false
def cSs (k : Ck) (q : Cx2) : Ss → (Nat → Bool) → List Stmt → Bool
  | .nil, _, ss => match ss with
    | [] => true
    | _ => false
  | .cons s r, pr, ss => match ss with
    | st :: sts => cS k q s pr st && cSs k q r pr sts
    | _ => false
def cHs (k : Ck) (q : Cx2) : Hs → (Nat → Bool) → List ExceptHandler → Bool
  | .nil, _, hs => match hs with
    | [] => true
    | _ => false
  | .cons c i s r, pr, hs => match hs with
    | .ExceptHandler (some (.Name x _)) n (b₀ :: suite) _ :: hds => decide (q.xns.lookup c = some x) && glB k x && cXs q.xfn n s (b₀ :: suite) && cHs k q r pr hds && (match i, n with
      | none, none => true
      | some j, some y => decide (k.N[j]? = some y) && decide (kd k y = some .local) && !pr j && dbg y
      | _, _ => false)
    | _ => false
end
structure Hy (X : Cx) (T : Tab) (W : WX) (C : Cfg) (k : Ck) (q : Cx2) : Prop where
  hx : Hx X T W C k
  stk : X.stack = X.env :: X.outer
  frm : X.env.frame = some X.env.locals
  po : PassesOwn (model X.prog X.w) X.A X.env X.xe
  exf : (q.xns ≠ []) → ExFacts X T C
  xfn : T.xf 0 = q.xfn
  xns : ∀ c x, q.xns.lookup c = some x → X.mg x = some (.ref (T.xa c)) ∧ c < T.nx
  rss : ∀ c x, q.rss.lookup c = some x → Raiser X T c x ∧ c < T.nx
section
variable {X : Cx} {T : Tab} {W : WX} {C : Cfg} {k : Ck} {q : Cx2}
theorem Hy.tr (h : Hy X T W C k q) {W' : WX} {pn : List (Addr × Obj)} {xe : Value → Shared → Prop} (tk : L2.Takes (X.tr pn xe) W') (po : PassesOwn (model X.prog X.w) X.A X.env xe) : Hy (X.tr pn xe) T W' C k q where
  hx := { N := h.hx.N, nd := h.hx.nd, sc := h.hx.sc, kind := h.hx.kind, K := h.hx.K, un := h.hx.un, calm := h.hx.calm, tk := tk, fnc := h.hx.fnc, blt := h.hx.blt, fl := h.hx.fl, nf := h.hx.nf,
          cls := fun hc => ⟨(h.hx.cls hc).cls, (h.hx.cls hc).no⟩, call := fun f x e => ⟨(h.hx.call f x e).ok⟩, me := fun f c m e => ⟨(h.hx.me f c m e).ok, (h.hx.me f c m e).no⟩, mak := fun f c x e => ⟨(h.hx.mak f c x e).ok⟩ }
  stk := h.stk
  frm := h.frm
  po := po
  exf := fun hq => ⟨(h.exf hq).fld, (h.exf hq).xf, (h.exf hq).no, (h.exf hq).sub⟩
  xfn := h.xfn
  xns := h.xns
  rss := fun c x e => ⟨⟨((h.rss c x e).1).ok⟩, (h.rss c x e).2⟩
theorem sw_no {e : Expr} (h : notComp e = true) (t : Option Expr) (l : Nat) (env : PySem.Env) : swapsWith e t l env = pure false := by
  cases e <;> first | rfl | cases h
theorem swsole {v : Expr} (h : notComp v = true) (t : Expr) (l : Nat) (env : PySem.Env) : swapsWithSole [t] v l env = pure false := by
  unfold swapsWithSole
  exact sw_no h _ _ _
theorem sws_no {t v : Expr} (h : noSwap t v = true) (env : PySem.Env) : swappedStores [t] v env = pure none := by
  cases t <;> first | rfl | (cases h; done) | skip
  · cases v <;> first | rfl | cases h
theorem sw_kind {el : Expr} {gs : List Comprehension} {scope : Scope} {p2 py : Pos} {y : Str} {l : Nat} {env : PySem.Env} (h : env.kindOf y ≠ some .local) : swapsWith (.ListComp el gs scope p2) (some (.Name y py)) l env = pure false := by
  have hb : (env.kindOf y == some .local) = false := beq_eq_false_iff_ne.mpr h
  unfold swapsWith
  simp only [hb, Bool.and_false, Bool.false_and]
theorem xe_ok (ef : ExFacts X T C) (hxf : T.xf 0 = q.xfn) {a : Addr} {oe : Obj} {cls : Value} {d : Option Addr} {pn : List (Addr × Obj)} {n : Option Str} {i : Option Nat} (hn : ∀ y, n = some y → ∃ j, i = some j ∧ X.N[j]? = some y ∧ Vis X.env.scope y ∧ dbg y = true)
    (hz : L2.Zc cls d oe) (hf : ∃ vs, oe.data = .fields vs) : ∀ (x : Xe) {e : Expr}, cXe q.xfn n x e = true → PE (X.suite a ((a, oe) :: pn)) e (tXe T C a i cls d x)
  | .what, e, hc => by
    simp only [cXe] at hc
    split at hc
    · simp only [Bool.and_eq_true, decide_eq_true_eq] at hc
      obtain ⟨j, rfl, h1, h2, h3⟩ := hn _ hc.1
      rw [hc.2, ← hxf]
      exact x_what ef h1 h2 (dbg_ok h3).1 (dbg_ok h3).2 hz hf
    · cases hc
  | .str s, e, hc => by
    simp only [cXe] at hc
    split at hc
    · have e1 := of_decide_eq_true hc
      subst e1
      exact x_str
    · cases hc
  | .bl s, e, hc => by
    simp only [cXe] at hc
    split at hc
    · have e1 := of_decide_eq_true hc
      subst e1
      exact x_bl
    · cases hc
  | .pair x y, e, hc => by
    simp only [cXe] at hc
    split at hc
    · simp only [Bool.and_eq_true] at hc
      exact x_pair (xe_ok ef hxf hn hz hf x hc.1.1.1) (xe_ok ef hxf hn hz hf y hc.1.1.2) hc.1.2 hc.2
    · cases hc
  | .eqs s, e, hc => by simp only [cXe] at hc; cases hc
  | .isx s, e, hc => by simp only [cXe] at hc; cases hc
theorem xs_ok {pr : Nat → Bool} (ef : ExFacts X T C) (hxf : T.xf 0 = q.xfn) {a : Addr} {oe : Obj} {cls : Value} {d : Option Addr} {pn : List (Addr × Obj)} {n : Option Str} {i : Option Nat} (hn : ∀ y, n = some y → ∃ j, i = some j ∧ X.N[j]? = some y ∧ Vis X.env.scope y ∧ dbg y = true)
    (hz : L2.Zc cls d oe) (hf : ∃ vs, oe.data = .fields vs) : ∀ (s : Xs) {ss : List Stmt}, cXs q.xfn n s ss = true → PSs (X.suite a ((a, oe) :: pn)) ss (tXS T C pr a i cls d s)
  | .ret x, ss, hc => by
    simp only [cXs] at hc
    split at hc
    · exact pss_one (x_ret (σ := []) (xe_ok ef hxf hn hz hf x hc))
    · cases hc
  | .pass, ss, hc => by
    simp only [cXs] at hc
    split at hc
    · exact pss_one x_pass
    · cases hc
  | .app _ _, ss, hc => by simp only [cXs] at hc; cases hc
  | .iff _ _ _, ss, hc => by simp only [cXs] at hc; cases hc
mutual
theorem sS : ∀ (s : S) {X : Cx} {W : WX} {pr : Nat → Bool} (h : Hy X T W C k q) {st : Stmt}, cS k q s pr st = true → PS X st (tS T W pr (dS C s))
  | .asg t e, X, W, pr, h, st, hc => by
    simp only [cS] at hc
    split at hc
    · rename_i et ea pos
      split at hc
      · rename_i i it tg own cs elt y py el t' i' ifs scope p2
        have ky : X.env.kindOf y = kd k y := by
          unfold Env.kindOf kd
          rw [h.hx.sc]
        split at hc
        · rename_i hl
          simp only [Bool.and_eq_true, decide_eq_true_eq, Bool.not_eq_true'] at hc
          obtain ⟨⟨⟨⟨h1, h2⟩, h3⟩, h4⟩, h5⟩ := hc
          simp only [cE, Bool.and_eq_true, decide_eq_true_eq] at h5
          obtain ⟨⟨⟨⟨⟨⟨c1, c2⟩, c3⟩, c4⟩, c5⟩, c6⟩, c7⟩ := h5
          have bk := blkOk_by c3
          have ow := own_map k.N own
          have hx := h.hx
          have hyl : X.env.scope.names.lookup y = some .local := by rw [hx.sc]; exact hl
          have := s_lc (W := W) (own := ownOf k.N own) (pos := p2) (spos := pos) (py := py) h2 hx.calm (by rw [hx.N]; exact hx.nd) (by rw [hx.N]; exact h1) hyl (sw_true (by rw [hx.sc]; exact hx.kind) hyl h3 h4) (sI it hx c1) (by rw [hx.N, hx.sc]; exact bk) (by rw [ow]; exact c4)
            (tg := tg) (fun s H Ca cl fp => by rw [ow]; exact sG (hx.blk bk.kind) tg c5) (fun s H Ca cl fp => sCs cs (hx.blk bk.kind) c6) (fun s H Ca cl fp => sE elt (hx.blk bk.kind) c7) (notSetF_ok c2)
          rw [ow] at this
          exact this
        · rename_i hl
          simp only [Bool.and_eq_true] at hc
          exact s_asg (sE _ h.hx hc.2) (sG h.hx _ hc.1) (sw_kind (l := pos.line) (by rw [ky]; exact hl)) rfl rfl
      · simp only [Bool.and_eq_true] at hc
        exact s_asg (sE _ h.hx hc.2) (sG h.hx _ hc.1.2) (sw_no hc.1.1.1.1 _ _ _) (sws_no hc.1.1.1.2 _) hc.1.1.2
    · cases hc
  | .par _ _ _ _, X, W, pr, h, st, hc => by simp only [cS] at hc; cases hc
  | .sfld p f e, X, W, pr, h, st, hc => by
    simp only [cS] at hc
    split at hc
    · simp only [Bool.and_eq_true, decide_eq_true_eq] at hc
      obtain ⟨⟨⟨⟨⟨h1, h2⟩, h3⟩, h4⟩, h5⟩, h6⟩ := hc
      rw [h4, ← h.hx.fl]
      exact s_sfld (h.hx.cls h2) (by rw [← h.hx.nf]; exact h3) (sE e h.hx h6) (sP p h.hx h5) (sw_no h1 _ _ _)
    · cases hc
  | .six p i e, X, W, pr, h, st, hc => by
    simp only [cS] at hc
    split at hc
    · simp only [Bool.and_eq_true] at hc
      obtain ⟨⟨⟨⟨h1, h2⟩, h3⟩, h4⟩, h5⟩ := hc
      exact s_six (by have := h.hx.un; omega) (sE e h.hx h5) (sP p h.hx h3) (sE i h.hx h4) h2 (swsole h1 _ _ _) rfl
    · cases hc
  | .aug _ _ _, X, W, pr, h, st, hc => by simp only [cS] at hc; cases hc
  | .augix _ _ _ _, X, W, pr, h, st, hc => by simp only [cS] at hc; cases hc
  | .augfld _ _ _ _, X, W, pr, h, st, hc => by simp only [cS] at hc; cases hc
  | .ex e, X, W, pr, h, st, hc => by
    simp only [cS] at hc
    split at hc
    · simp only [Bool.and_eq_true] at hc
      exact s_ex (sE e h.hx hc.2) (sw_no hc.1 _ _ _)
    · cases hc
  | .iff t a b, X, W, pr, h, st, hc => by
    simp only [cS] at hc
    split at hc
    · simp only [Bool.and_eq_true] at hc
      exact s_if ((sT t h.hx hc.1.1).1 _ rfl) (sSs a h hc.1.2) (sSs b h hc.2)
    · cases hc
  | .for_ it tg body, X, W, pr, h, st, hc => by
    simp only [cS] at hc
    split at hc
    · simp only [Bool.and_eq_true] at hc
      exact s_for h.po h.hx.calm (sI it h.hx hc.1.1.1) (sG h.hx tg hc.1.2) (sSs body h hc.2) (notSetF_ok hc.1.1.2)
    · cases hc
  | .whl t body, X, W, pr, h, st, hc => by
    simp only [cS] at hc
    split at hc
    · simp only [Bool.and_eq_true] at hc
      exact s_whl h.po ((sT t h.hx hc.1).1 _ rfl) (sSs body h hc.2)
    · cases hc
  | .ret e, X, W, pr, h, st, hc => by
    simp only [cS] at hc
    split at hc
    · exact s_ret (sE e h.hx hc)
    · cases hc
  | .retN, X, W, pr, h, st, hc => by
    simp only [cS] at hc
    split at hc
    · exact s_retN
    · cases hc
  | .rs c es, X, W, pr, h, st, hc => by
    simp only [cS] at hc
    split at hc
    · simp only [Bool.and_eq_true, decide_eq_true_eq] at hc
      obtain ⟨⟨⟨h1, h2⟩, h3⟩, h4⟩ := hc
      obtain ⟨g1, g2⟩ := gl_ok h.hx h2
      obtain ⟨r1, r2⟩ := h.rss _ _ h1
      exact s_rs r1 r2 h.hx.calm h.hx.tk g1 g2 (sEs es h.hx h4).1 h3
    · cases hc
  | .try_ b hs, X, W, pr, h, st, hc => by
    simp only [cS] at hc
    split at hc
    · rename_i body h0 hds pos
      simp only [Bool.and_eq_true] at hc
      have ne : q.xns ≠ [] := by
        intro z
        have h2 := hc.2
        cases hs with
        | nil => simp only [cHs] at h2; cases h2
        | cons c i s r =>
          simp only [cHs] at h2
          split at h2
          · simp only [Bool.and_eq_true, decide_eq_true_eq] at h2
            have := h2.1.1.1.1
            rw [z] at this
            cases this
          · cases h2
      obtain ⟨l, hh⟩ := sHs hs h (h.exf ne) hc.2
      exact s_try (h.exf ne) h.stk h.frm (by rw [h.hx.N]; exact h.hx.nd) h.hx.tk (fun W' pn xe tk po => sSs b (h.tr tk po) hc.1) hh
    · cases hc
  | .brk, X, W, pr, h, st, hc => by
    simp only [cS] at hc
    split at hc
    · exact s_brk
    · cases hc
  | .cnt, X, W, pr, h, st, hc => by
    simp only [cS] at hc
    split at hc
    · exact s_cnt
    · cases hc
  | .pass, X, W, pr, h, st, hc => by
    simp only [cS] at hc
    split at hc
    · exact s_pass
    · exact s_doc
    · cases hc
  | .never, X, W, pr, h, st, hc => s_never
theorem sSs : ∀ (ss : Ss) {X : Cx} {W : WX} {pr : Nat → Bool} (h : Hy X T W C k q) {sts : List Stmt}, cSs k q ss pr sts = true → PSs X sts (tS T W pr (dSs C ss))
  | .nil, X, W, pr, h, sts, hc => by
    simp only [cSs] at hc
    split at hc
    · exact ss_nil
    · cases hc
  | .cons s r, X, W, pr, h, sts, hc => by
    simp only [cSs] at hc
    split at hc
    · simp only [Bool.and_eq_true] at hc
      exact ss_cons (sS s h hc.1) (sSs r h hc.2)
    · cases hc
theorem sHs : ∀ (hs : Hs) {X : Cx} {W : WX} {pr : Nat → Bool} (h : Hy X T W C k q) (ef : ExFacts X T C) {hds : List ExceptHandler}, cHs k q hs pr hds = true → ∃ l, HsOk X T C pr hds hs l
  | .nil, X, W, pr, h, ef, hds, hc => by
    simp only [cHs] at hc
    split at hc
    · exact ⟨[], .nil⟩
    · cases hc
  | .cons c i s r, X, W, pr, h, ef, hds, hc => by
    simp only [cHs] at hc
    split at hc
    · rename_i x np n b₀ suite pos hds
      simp only [Bool.and_eq_true, decide_eq_true_eq] at hc
      obtain ⟨⟨⟨⟨h1, h2⟩, h3⟩, h4⟩, h5⟩ := hc
      obtain ⟨g1, g2⟩ := gl_ok h.hx h2
      obtain ⟨m1, m2⟩ := h.xns _ _ h1
      obtain ⟨l, hl⟩ := sHs r h ef h4
      have nm : Names X x (.ref (T.xa c)) := ⟨g1, g2, .inl m1⟩
      split at h5
      · refine ⟨_, .cons (k := ⟨.ref (T.xa c), none, fun a cls d => tXS T C pr a none cls d s⟩) (.cons nm (fun a oe cls d pn hz hf => xs_ok ef h.xfn (by intro y z; cases z) hz hf s h3) .nil) rfl rfl rfl m2 (by intro j z; cases z) hl⟩
      · rename_i j y
        simp only [Bool.and_eq_true, decide_eq_true_eq, Bool.not_eq_true'] at h5
        obtain ⟨⟨⟨k1, k2⟩, k3⟩, k4⟩ := h5
        have hi : X.N[j]? = some y := by rw [h.hx.N]; exact k1
        have hln : X.env.kindOf y = some .local := by
          unfold Env.kindOf
          rw [h.hx.sc]
          exact k2
        refine ⟨_, .cons (k := ⟨.ref (T.xa c), some j, fun a cls d => tXS T C pr a (some j) cls d s⟩) (.as_ nm hi hln (fun a oe cls d pn hz hf => xs_ok ef h.xfn (fun y' z => by cases z; exact ⟨j, rfl, hi, .inl hln, k4⟩) hz hf s h3) .nil) rfl rfl rfl m2 (fun j' z => by cases z; exact ⟨k3, (List.getElem?_eq_some_iff.mp hi).1⟩) hl⟩
      · cases h5
    · cases hc
end
end
end Mp
/-! A def keeps what its denotation says. -/
namespace Mp
open PySem L2

theorem Ext.refl' (H : Hp) : Ext H H := fun _ _ h => h
section
variable {T : Tab} {G H : Hp}
theorem outs_ok : ∀ {prot : List Bool} {ρ : Env} {σ : L2.St} {vs : List V} {F : List Addr}, RpE T G H ρ σ F → F.Nodup → prot.length = vs.length → (∀ (i : Nat) (v : V), prot[i]? = some true → vs[i]? = some v → σ[i]? = some (some v)) →
    ∃ F', F'.Nodup ∧ (∀ a ∈ F', a ∈ F) ∧ RpL T G H (outsOf prot ρ) vs F'
  | [], ρ, σ, vs, F, re, nd, hl, hk => by
    have : vs = [] := List.length_eq_zero_iff.mp hl.symm
    subst this
    exact ⟨[], List.nodup_nil, (fun _ z => nomatch z), by unfold outsOf; exact ⟨rfl, rfl⟩⟩
  | b :: bs, ρ, σ, [], F, re, nd, hl, hk => by simp at hl
  | b :: bs, [], σ, v :: vs, F, re, nd, hl, hk => by
    obtain ⟨rfl, rfl⟩ := re
    obtain ⟨F', n', s', r'⟩ := outs_ok (prot := bs) (ρ := []) (σ := []) (vs := vs) (F := []) (show RpE T G H [] [] [] from ⟨rfl, rfl⟩) List.nodup_nil (by simpa using hl) (fun i w h1 h2 => by have := hk (i + 1) w (by simpa using h1) (by simpa using h2); simp at this)
    exact ⟨F', n', s', v, vs, [], F', rfl, rfl, by simp only [Rp], r'⟩
  | b :: bs, d :: ρ, σ, v :: vs, F, re, nd, hl, hk => by
    obtain ⟨s, τ, F1, F2, rfl, rfl, r1, r2⟩ := re
    obtain ⟨n1, n2, n3⟩ := List.nodup_append.mp nd
    obtain ⟨F', n', s', r'⟩ := outs_ok (prot := bs) r2 n2 (by simpa using hl) (fun i w h1 h2 => by simpa using hk (i + 1) w (by simpa using h1) (by simpa using h2))
    cases b with
    | false => exact ⟨F', n', fun a ha => List.mem_append_right _ (s' a ha), v, vs, [], F', rfl, rfl, by simp only [Rp], r'⟩
    | true =>
      have e := hk 0 v rfl rfl
      simp only [List.getElem?_cons_zero, Option.some.injEq] at e
      subst e
      rcases r1 with ⟨rfl, rfl⟩ | ⟨w, ew, r1⟩
      · exact ⟨F', n', fun a ha => List.mem_append_right _ (s' a ha), v, vs, [], F', rfl, rfl, by simp only [Rp], r'⟩
      · cases ew
        exact ⟨F1 ++ F', List.nodup_append.mpr ⟨n1, n', fun a ha b hb => n3 a ha b (s' b hb)⟩, fun a ha => (List.mem_append.mp ha).elim (fun z => List.mem_append_left _ z) fun z => List.mem_append_right _ (s' a z), v, vs, F1, F', rfl, rfl, r1, r'⟩
end
/-- a def of the module that may be called at the level -/
def FnAt (P : Program) (w : World) (K : PySem.W.Frag) (mg : Str → Option Value) (base : Heap) (T : Tab) (lvl : Nat) (fn : Fn) (a : Addr) : Prop :=
  ∃ j fd ps, j ≤ lvl ∧ FnOk P w K mg base (L2.CX P w) j a fd ps (spOf T fn) ∧ Binds K fd ps []
/-- what the module says, for a body of the level -/
structure Wd (P : Program) (w : World) (K : PySem.W.Frag) (mg : Str → Option Value) (base : Heap) (T : Tab) (lvl : Nat) (C : Cfg) (k : Ck) (q : Cx2) : Prop where
  eK : K = T.K
  nd : k.N.Nodup
  kind : k.sc.kind = .function
  blt : ∀ x, bltNames.contains x = true → mg x = none
  fl : ∀ f, T.fnm f = k.fl f
  nf : k.nf = T.nf
  cls : k.cls = true → (∀ c, Cls K (T.ca c)) ∧ ∀ c f, f < T.nf → NoAttr K (T.ca c) (T.fnm f)
  call : ∀ f x, k.fns.lookup f = some x → ∃ a, FnAt P w K mg base T lvl (C.fn f) a ∧ mg x = some (.ref a) ∧ PySem.W.keepIn K (.ref a) = true
  me : ∀ f c m, k.mes.lookup f = some (c, m) → (∃ a, FnAt P w K mg base T lvl (C.fn f) a ∧ Meth K (T.ca c) m a) ∧ ∀ g, g < T.nf → T.fnm g ≠ m
  mak : ∀ f c x, k.mks.lookup f = some (c, x) → ∃ a l2, l2 + 1 = lvl ∧ FnAt P w K mg base T l2 (C.fn f) a ∧ mg x = some (.ref (T.ca c)) ∧ Mk K (T.ca c) a
  exf : q.xns ≠ [] → (∀ c, T.xf c = T.xf 0) ∧ (∀ c, XfC K (T.xa c)) ∧ (∀ c, PySem.W.findIn K (.ref (T.xa c)) (T.xf 0) = some none) ∧ ∀ c c', c < T.nx → c' < T.nx → PySem.W.exmOne K (.ref (T.xa c)) (.ref (T.xa c')) = some (C.sub c c')
  xfn : T.xf 0 = q.xfn
  xns : ∀ c x, q.xns.lookup c = some x → mg x = some (.ref (T.xa c)) ∧ c < T.nx
  rss : ∀ c x, q.rss.lookup c = some x → (∃ j fI fd ps, j + 1 ≤ lvl ∧ OexC K (T.xa c) ∧ PySem.W.findIn K (.ref (T.xa c)) "__init__" = some (some (.ref fI)) ∧ PySem.W.typeIn K (.ref fI) = some (.type "function") ∧ FnOk P w K mg base (L2.CX P w) j fI fd ps (spX T c) ∧ Binds K fd ps [] ∧ mg x = some (.ref (T.xa c))) ∧ c < T.nx
section
variable {P : Program} {w : World} {K : PySem.W.Frag} {mg : Str → Option Value} {base : Heap} {T : Tab} {lvl : Nat} {C : Cfg} {k : Ck} {q : Cx2}
theorem Wd.hy (wd : Wd P w K mg base T lvl C k q) {X : Cx} {W : WX} (e1 : X.prog = P) (e2 : X.w = w) (e3 : X.K = K) (e4 : X.mg = mg) (e5 : X.base = base) (hr : Room lvl X.A) (hN : X.N = k.N) (hsc : X.env.scope = k.sc) (hc : X.calm = true) (tk : L2.Takes X W) (hfn : ∀ x, X.fn x = true)
    (stk : X.stack = X.env :: X.outer) (frm : X.env.frame = some X.env.locals) (po : PassesOwn (model X.prog X.w) X.A X.env X.xe) : Hy X T W C k q := by
  subst e1 e2 e3 e4 e5
  refine ⟨⟨hN, wd.nd, hsc, wd.kind, wd.eK, by have := hr.un; omega, hc, tk, fun x _ => hfn x, wd.blt, wd.fl, wd.nf, fun h => ⟨(wd.cls h).1, (wd.cls h).2⟩, fun f x e => ?_, fun f c m e => ?_, fun f c x e => ?_⟩, stk, frm, po, fun h => ?_, wd.xfn, wd.xns, fun c x e => ?_⟩
  · obtain ⟨a, ⟨j, fd, ps, hj, F, hb⟩, hm, hk⟩ := wd.call f x e
    exact ⟨j, a, fd, ps, F, hr.mono hj, hm, hk, hb⟩
  · obtain ⟨⟨a, ⟨j, fd, ps, hj, F, hb⟩, hm⟩, no⟩ := wd.me f c m e
    exact ⟨⟨j, a, fd, ps, F, hr.mono hj, hm, hb⟩, no⟩
  · obtain ⟨a, l2, el, ⟨j, fd, ps, hj, F, hb⟩, hm, M⟩ := wd.mak f c x e
    exact ⟨j, a, fd, ps, F, hr.mono (by omega), hm, M, hb⟩
  · obtain ⟨a, b, c, d⟩ := wd.exf h
    exact ⟨a, b, c, d⟩
  · obtain ⟨⟨j, fI, fd, ps, hj, ox, iC, tI, F, hb, hm⟩, hc⟩ := wd.rss c x e
    exact ⟨⟨j, fI, fd, ps, ox, iC, tI, F, hr.mono hj, hb, hm⟩, hc⟩
theorem kp_start {pr : Nat → Bool} {N : List Str} {vs : List V} {σ' : L2.St} (k : Kp pr (L2.start N vs) σ') {i : Nat} {v : V} (hp : pr i = true) (hv : vs[i]? = some v) : σ'[i]? = some (some v) := by
  rw [k.2 i hp]
  unfold L2.start
  have hi := (List.getElem?_eq_some_iff.mp hv).1
  rw [List.getElem?_append_left (by simpa using hi), List.getElem?_map, hv]
  rfl
/-- the rule of a def -/
theorem fn_ok {f : Addr} {name qual : Str} {params : Arguments} {body : List Stmt} {scope : Scope} {dV kV doc pm cdv ct oc : Value} {an od : Option Addr} {osl : Array (Option Value)} {ps : List Str} {df : Df}
    (wd : Wd P w K mg base T lvl C k q) (lk : K.lookup f = some ⟨oc, od, .func (PySem.W.fnOf name qual params body scope dV kV doc pm an cdv ct), osl⟩) (hcd : PySem.W.codeIn K cdv qual = true) (S : FnScope k.N ps scope) (hsc : scope = k.sc)
    (hprot : df.prot.length = ps.length) (hsl : df.slots = k.N.length) (hck : cSs k q df.body (fun i => df.prot.getD i false) body = true) :
    FnOk P w K mg base (L2.CX P w) (lvl + 1) f (PySem.W.fnOf name qual params body scope dV kV doc pm an cdv ct) ps (spOf T (dF C df)) := by
  have len : ∀ vs H Q E, spOf T (dF C df) vs H Q E → vs.length = ps.length := fun vs H Q E ⟨G, ds, F, ex, rl, nd, gn, h⟩ => by
    unfold dF at h
    cases hl : decide (ds.length = df.prot.length) with
    | false => simp only [hl] at h
    | true =>
      have hl := of_decide_eq_true hl
      rw [rl.length, hl, hprot]
  refine fn_of lk hcd S len fun A outer s H vs Q E hr h => ⟨tS T (fun cls d _ H' => E cls d H') (fun i => df.prot.getD i false) (dSs C df.body), ?_, ?_⟩
  · refine sSs (k := k) (q := q) df.body (wd.hy rfl rfl rfl rfl rfl hr rfl hsc rfl (L2.takes_of rfl rfl rfl rfl) (fun _ => rfl) rfl rfl (L2.passes_of rfl)) hck
  · have hvs := len _ _ _ _ h
    obtain ⟨G, ds, F, ex, rl, nd, gn, h⟩ := h
    unfold dF at h
    cases hl : decide (ds.length = df.prot.length) with
    | false => simp only [hl] at h
    | true =>
      simp only [hl] at h
      have hl := of_decide_eq_true hl
      have e1 : df.slots - ds.length = k.N.length - vs.length := by rw [hsl, rl.length]
      have re : RpE T G H (ds ++ List.replicate (df.slots - ds.length) .gone) (L2.start k.N vs) F := by
        have := (RpE.ofL rl).append (RpE.none (T := T) (G := G) (H := H) (k.N.length - vs.length))
        rw [List.append_nil] at this
        rw [e1]
        exact this
      refine ⟨G, _, F, ⟨ex, re, nd, gn⟩, ?_⟩
      have pk : ∀ {σ' : L2.St}, Kp (fun i => df.prot.getD i false) (L2.start k.N vs) σ' → ∀ i v, df.prot[i]? = some true → vs[i]? = some v → σ'[i]? = some (some v) := fun kp i v h1 h2 => kp_start kp (by rw [List.getD_eq_getElem?_getD, h1]; rfl) h2
      have lp : df.prot.length = vs.length := by rw [hprot, hvs]
      cases ed : dSs C df.body (ds ++ List.replicate (df.slots - ds.length) .gone) with
      | nx ρ' =>
        rw [ed] at h
        intro σ' H' ⟨G', F', st, re', kp⟩
        obtain ⟨F2, n2, s2, ro⟩ := outs_ok re' st.nd lp (pk kp)
        exact h .non H' G' [] F2 (st.less n2 s2) ⟨rfl, rfl⟩ ro
      | ret d ρ' =>
        rw [ed] at h
        intro v σ' H' ⟨G', Fv, F', st, rv, re', kp⟩
        obtain ⟨b1, b2, b3⟩ := List.nodup_append.mp st.nd
        obtain ⟨F2, n2, s2, ro⟩ := outs_ok re' b2 lp (pk kp)
        exact h v H' G' Fv F2 (st.less (List.nodup_append.mpr ⟨b1, n2, fun a ha b hb => b3 a ha b (s2 b hb)⟩) fun a ha => (List.mem_append.mp ha).elim (fun z => List.mem_append_left _ z) fun z => List.mem_append_right _ (s2 a z)) rv ro
      | exc c x ρ' =>
        rw [ed] at h
        intro σ' kp H' dd ⟨G', F', st, re', w', hd, rx, xo⟩
        exact h H' dd G' w' (st.less List.nodup_nil (fun _ z => nomatch z)) hd rx xo
      | bk ρ' => rw [ed] at h; exact h.elim
      | ct ρ' => rw [ed] at h; exact h.elim
      | stuck => rw [ed] at h; exact h.elim
end
end Mp
/-! An own exception's __init__: Base.__init__(self, text + what); self.what = what. -/
namespace Mp
open PySem PySem.Spec PyProof.Rows L2
section
variable {X : Cx} {o e : Expr} {es : List Expr} {ta : TA} {p1 p2 pos : Pos} {bs : Str} {CB : Addr}
theorem pe_einit (hg : Gl X bs) (hdb : (bs == ("__debug__" : Str)) = false) (hm : X.mg bs = some (.ref CB)) (hsp : PySem.W.specialIn X.K (.ref CB) "__getattribute__" = some (some (.builtin "type.__getattribute__"))) (hr : PySem.W.readsIn X.K CB (.type "type") = true)
    (vV : PySem.W.findCls X.K (.ref CB) (.type "type") "__init__" = some (.val (.builtin "ValueError.__init__"))) (ha : PA X (e :: es) ta) (pl : (e :: es).all plainE = true) (l : (e :: es).length < 30) (hl : (p2.endLine == pos.line) = true) :
    PE X (.Call (.Attribute (.Name bs p1) "__init__" p2) (e :: es) [] pos) (tVeI X.K ta) := by
  refine ⟨fun pins s σ H Q I h => ?_⟩
  refine PySem.W.methodCall_KW (ld_glob I hg hm ?_ hdb) (mcall_ht (attrBase_ok _ rfl) pl l hl)
  refine PySem.W.method_cls I.kIn hsp (PySem.W.cls_value I.kIn hr vV (by decide +kernel) ?_)
  show wpAny _ _ (callWith pos (Value.builtin "ValueError.__init__") [] (backTo pos (starEach (e :: es) X.env)) []) _ _ _
  rw [List.all_cons, Bool.and_eq_true] at pl
  refine PyProof.Rows.callWith_method1 (thn (ha.run pos pins _ σ H _ (I.tok _) h) fun us s1 ⟨vs, H1, I1, r1, a, C, ws, ev, hl, T, ea, q⟩ => ?_) (star_cons pl.1 es X.env) (star_any pl.2 X.env pos)
  subst ev
  cases r1 with
  | @cons _ u0 _ ur ra rw' =>
    obtain rfl : u0 = Value.ref a := ra
    have hlen : ur.length ≤ sizeLine := by
      rw [← Paired.length rw', sizeLine_eq]
      omega
    exact oinit_ok T I1 ea hlen fun s' J => ⟨.non, H1, J, rfl, q⟩
end
section
variable {P : Program} {w : World} {K : PySem.W.Frag} {mg : Str → Option Value} {base : Heap} {T : Tab} {lvl c : Nat} {CB : Addr} {bs sf wh t : Str}
theorem exc_ok {f : Addr} {name qual : Str} {params : Arguments} {body : List Stmt} {scope : Scope} {dV kV doc pm cdv ct oc : Value} {an od : Option Addr} {osl : Array (Option Value)} {j : _} {q1 q2 q3 q4 q5 q6 q7 q8 q9 q10 q11 q12 : Pos}
    (lk : K.lookup f = some ⟨oc, od, .func (PySem.W.fnOf name qual params body scope dV kV doc pm an cdv ct), osl⟩) (hcd : PySem.W.codeIn K cdv qual = true) (S : FnScope [sf, wh] [sf, wh] scope)
    (hbs : scope.names.lookup bs = some .globalImplicit) (hdb : (bs == ("__debug__" : Str)) = false) (d1 : dbg sf = true) (d2 : dbg wh = true) (hm : mg bs = some (.ref CB)) (hsp : PySem.W.specialIn K (.ref CB) "__getattribute__" = some (some (.builtin "type.__getattribute__"))) (hr : PySem.W.readsIn K CB (.type "type") = true)
    (vV : PySem.W.findCls K (.ref CB) (.type "type") "__init__" = some (.val (.builtin "ValueError.__init__"))) (ox : OexC K (T.xa c)) (no : PySem.W.findIn K (.ref (T.xa c)) (T.xf c) = some none)
    (hbody : body = [.Expr (.Call (.Attribute (.Name bs q1) "__init__" q2) [.Name sf q3, .BinOp (.Constant (.str t) j q4) .Add (.Name wh q5) q6] [] q7) q8, .Assign [.Attribute (.Name sf q9) (T.xf c) q10] (.Name wh q11) q12]) (hl : (q2.endLine == q7.line) = true) (tl : t.length ≤ 1000) :
    FnOk P w K mg base (L2.CX P w) (lvl + 1) f (PySem.W.fnOf name qual params body scope dV kV doc pm an cdv ct) [sf, wh] (spX T c) := by
  refine fn_of lk hcd S (fun vs H Q E ⟨a, z, e, _⟩ => by rw [e]; rfl) fun A outer s H vs Q E hrm ⟨a, z, ev, hz, ha, kk⟩ => ?_
  subst ev hbody
  generalize hX : cxOf (L2.CX P w) P w K mg base [sf, wh] qual scope f cdv A outer s H E = X
  have eK : X.K = K := by rw [← hX]; rfl
  have eN : X.N = [sf, wh] := by rw [← hX]; rfl
  have esc : X.env.scope = scope := by rw [← hX]; rfl
  have emg : X.mg = mg := by rw [← hX]; rfl
  have v0 : Vis X.env.scope sf := by
    rw [esc]
    exact (S.par sf (by simp)).imp id .inl
  have v1 : Vis X.env.scope wh := by
    rw [esc]
    exact (S.par wh (by simp)).imp id .inl
  have n0 : ∀ q, PE X (.Name sf q) (tVar 0) := fun q => pe_var (by rw [eN]; rfl) v0 (dbg_ok d1).1 (dbg_ok d1).2
  have n1 : ∀ q, PE X (.Name wh q) (tVar 1) := fun q => pe_var (by rw [eN]; rfl) v1 (dbg_ok d2).1 (dbg_ok d2).2
  have gl : Gl X bs := by
    unfold Gl Env.kindOf
    rw [esc]; exact hbs
  have pa : PA X [.Name sf q3, .BinOp (.Constant (.str t) j q4) .Add (.Name wh q5) q6] _ := pa_cons (n0 q3) (pa_cons (pe_op (pos := q6) op_add_str pe_str (n1 q5)) pa_nil)
  have c1 := pe_einit (p1 := q1) (p2 := q2) (pos := q7) gl hdb (by rw [emg]; exact hm) (by rw [eK]; exact hsp) (by rw [eK]; exact hr) (by rw [eK]; exact vV) pa rfl (show 2 < 30 by decide) hl
  have c2 := ps_ost (pos := q12) (p' := q10) (f := T.xf c) (n0 q9) (n1 q11) rfl
  refine ⟨_, pss_cons (ps_expr c1 rfl) (pss_cons c2 pss_nil), ?_⟩
  have s0 : (L2.start [sf, wh] [V.ref a, V.str z])[0]? = some (some (V.ref a)) := rfl
  have s1 : (L2.start [sf, wh] [V.ref a, V.str z])[1]? = some (some (V.str z)) := rfl
  refine ⟨_, s0, _, s1, t, z, rfl, rfl, by rw [sizeLine_eq]; omega, a, T.xa c, [.str (t ++ z)], rfl, by simp, by rw [eK]; exact ox, ha, ?_⟩
  refine ⟨_, s1, _, s0, a, T.xa c, rfl, by rw [eK]; exact ox, by rw [eK]; exact no, .inl ⟨ha, fun dx hd ne => kk dx hd ne⟩⟩
end
end Mp
/-! The hook of a law: facts of the module. -/
namespace Mp
open PySem PySem.Spec PyProof.Rows L2 He

def oexB (K : PySem.W.Frag) (C : Addr) : Bool := match K.lookup C with
  | some ⟨.type "type", _, .cls cd, sl⟩ => (match cd.mro, sl.toList with
    | .ref C' :: bm, [_, _, _, _, some (.builtin n), _] => C' == C && n == "ValueError.__new__" && !cd.hasDel && cd.hasDict && PySem.HandSPX.refsVE bm
    | _, _ => false)
  | _ => false
theorem oexB_ok {K : PySem.W.Frag} {C : Addr} (q : oexB K C = true) : ∃ nm q N bs bm sn sub ab col dd k0 k1 k2 k3 k5, K.lookup C = some (excClassObj nm q C N bs bm true sn sub ab col dd k0 k1 k2 k3 k5 "ValueError.__new__") ∧ PySem.HandSPX.refsVE bm = true := by
  unfold oexB at q
  split at q
  · rename_i dd cd sl ho
    split at q
    · rename_i C' bm k0 k1 k2 k3 n k5 hm hs
      simp only [Bool.and_eq_true, beq_iff_eq, Bool.not_eq_true'] at q
      obtain ⟨⟨⟨⟨rfl, rfl⟩, hdel⟩, hdi⟩, ht⟩ := q
      obtain ⟨nm, bs, mro, ns, qn, hd, sn, sub, ab, col, del⟩ := cd
      dsimp only at hm hdel hdi
      subst hm hdel hdi
      have hsl : sl = #[k0, k1, k2, k3, some (.builtin "ValueError.__new__"), k5] := by
        obtain ⟨l⟩ := sl
        simp only at hs
        rw [hs]
      subst hsl
      exact ⟨_, _, _, _, _, _, _, _, _, _, _, _, _, _, _, ho, ht⟩
    · cases q
  · cases q
/-- the facts of the exception class x over the own class b (no __init__ of its own) -/
def excB (xfn : Str) (b : Str) (K : PySem.W.Frag) (x : Str) : Bool :=
  oexB K (ga K x) && (eqO (PySem.W.findIn K (.ref (ga K x)) "__setattr__") (some (some (.builtin "object.__setattr__"))) && (decide (PySem.W.subIn K (.ref (ga K x)) (.type "BaseException") = some true) && (decide (PySem.W.typeIn K (.ref (ga K x)) = some (.type "type")) && (PySem.W.keepIn K (.ref (ga K x)) &&
    (xfB K (ga K x) && (eqO (PySem.W.findIn K (.ref (ga K x)) xfn) (some none) && (eqO (PySem.W.findIn K (.ref (ga K x)) "__init__") (some (some (.ref (ma K (ga K x) "__init__")))) && decide (PySem.W.typeIn K (.ref (ma K (ga K x) "__init__")) = some (.type "function")))))))))
structure ExcF (K : PySem.W.Frag) (xfn : Str) (C fI : Addr) : Prop where
  ox : OexC K C
  xf : XfC K C
  no : PySem.W.findIn K (.ref C) xfn = some none
  iC : PySem.W.findIn K (.ref C) "__init__" = some (some (.ref fI))
  tI : PySem.W.typeIn K (.ref fI) = some (.type "function")
theorem excB_ok {xfn b : Str} {K : PySem.W.Frag} {x : Str} (h : excB xfn b K x = true) : ExcF K xfn (ga K x) (ma K (ga K x) "__init__") := by
  obtain ⟨h1, h⟩ := ba h
  obtain ⟨h2, h⟩ := ba h
  obtain ⟨h3, h⟩ := ba h
  obtain ⟨h4, h⟩ := ba h
  obtain ⟨h5, h⟩ := ba h
  obtain ⟨h6, h⟩ := ba h
  obtain ⟨h7, h⟩ := ba h
  obtain ⟨h8, h9⟩ := ba h
  exact ⟨⟨oexB_ok h1, eqO_ok h2, of_decide_eq_true h3, of_decide_eq_true h4, h5⟩, xfB_ok h6, eqO_ok h7, eqO_ok h8, of_decide_eq_true h9⟩
/-- the base class, whose __init__ is ValueError's -/
def baseB (K : PySem.W.Frag) (b : Str) : Bool := decide (PySem.W.specialIn K (.ref (ga K b)) "__getattribute__" = some (some (.builtin "type.__getattribute__"))) && (PySem.W.readsIn K (ga K b) (.type "type") && (match PySem.W.findCls K (.ref (ga K b)) (.type "type") "__init__" with
  | some (.val (.builtin n)) => decide (n = "ValueError.__init__")
  | _ => false))
theorem baseB_ok {K : PySem.W.Frag} {b : Str} (h : baseB K b = true) : PySem.W.specialIn K (.ref (ga K b)) "__getattribute__" = some (some (.builtin "type.__getattribute__")) ∧ PySem.W.readsIn K (ga K b) (.type "type") = true ∧ PySem.W.findCls K (.ref (ga K b)) (.type "type") "__init__" = some (.val (.builtin "ValueError.__init__")) := by
  obtain ⟨h1, h⟩ := ba h
  obtain ⟨h2, h3⟩ := ba h
  refine ⟨of_decide_eq_true h1, h2, ?_⟩
  split at h3
  · rename_i n e
    rw [e, of_decide_eq_true h3]
  · cases h3
/-! ### the Hook -/
abbrev AlM : Type := AlD × Bool
def obsM (n : Nat) (fa : List Fa) (fn : List DefD) (ex : PySem.W.Frag → Bool) (g : Addr → Option Obj) : AlM := (obsD fa fn (frG g (asD g n ++ growD g [cStatics])), ex (frG g (asD g n ++ growD g [cStatics])))
def hookM (n : Nat) (fa : List Fa) (fn : List DefD) (ex : PySem.W.Frag → Bool) : PySem.W.Hook where
  α := AlM
  obs := fun s => obsM n fa fn ex s.heap.get?
  val := fun _ => (valD fn, true)
  says := fun _ h => ∃ K : PySem.W.Frag, K.In h ∧ SaysD fa fn K ∧ ex K = true
  of := fun _ _ e => ⟨_, frG_in, congrArg (fun z : AlM => z.1) e, congrArg (fun z : AlM => z.2) e⟩
  keeps := fun _ _ _ ⟨K, hK, c⟩ k => ⟨K, PySem.W.Frag.In.keeps hK k, c⟩
theorem obsM_eq {n : Nat} {fa : List Fa} {fn : List DefD} {ex : PySem.W.Frag → Bool} {g : Addr → Option Obj} {s : Shared} (h : ∀ a, g a = s.heap.get? a) : obsM n fa fn ex g = (hookM n fa fn ex).obs s := by
  have e : g = s.heap.get? := funext h
  rw [e] <;> rfl
end Mp
/-! A module's facts, put together. -/
namespace Mp
open PySem PySem.Spec PyProof.Rows L2 He

/-- the names of a module's things -/
structure Nm where
  gls : List Str
  cls : List Str
  fls : List Str
  exs : List Str
  xfn : Str
  sub : Nat → Nat → Bool
theorem getD_inj {l : List Str} (nd : l.Nodup) {i j : Nat} (hi : i < l.length) (hj : j < l.length) (e : l.getD i "" = l.getD j "") : i = j := by
  rw [List.getD_eq_getElem?_getD, List.getD_eq_getElem?_getD, List.getElem?_eq_getElem hi, List.getElem?_eq_getElem hj] at e
  exact (List.getElem_inj nd).mp e
theorem getD_mem {l : List Str} (h : l ≠ []) (i : Nat) : l.getD i (l.headD "") ∈ l := by
  cases l with
  | nil => exact absurd rfl h
  | cons a l =>
    rw [List.getD_eq_getElem?_getD]
    cases e : (a :: l)[i]? with
    | none => exact List.mem_cons_self
    | some x => exact List.mem_of_getElem? e
def tabOf (n : Nm) (K : PySem.W.Frag) (nd : n.fls.Nodup) : Tab := ⟨K, fun c => ga K (n.cls.getD c (n.cls.headD "")), fun f => n.fls.getD f "", n.fls.length, fun _ _ h1 h2 e => getD_inj nd h1 h2 e, fun c => ga K (n.exs.getD c (n.exs.headD "")), fun _ => n.xfn, n.exs.length⟩
def exmB (n : Nm) (K : PySem.W.Frag) : Bool := (List.range n.exs.length).all fun c => (List.range n.exs.length).all fun c' => decide (PySem.W.exmOne K (.ref (ga K (n.exs.getD c (n.exs.headD "")))) (.ref (ga K (n.exs.getD c' (n.exs.headD "")))) = some (n.sub c c'))
def moB (n : Nm) (K : PySem.W.Frag) : Bool := (bltNames.all fun x => (Fa.free x).ok K) && ((n.gls.all fun x => (Fa.glo x).ok K) && ((n.cls.all fun x => (Fa.cls x).ok K && n.fls.all fun f => (Fa.noat x f).ok K) && ((n.exs.all fun x => xfB K (ga K x) && eqO (PySem.W.findIn K (.ref (ga K x)) n.xfn) (some none)) && exmB n K)))
/-- what the module says -/
structure Mo (n : Nm) (K : PySem.W.Frag) (mg : Str → Option Value) : Prop where
  blt : ∀ x, bltNames.contains x = true → mg x = none
  glo : ∀ x, n.gls.contains x = true → mg x = some (.ref (ga K x))
  cls : n.cls ≠ [] → ∀ c, Cls K (ga K (n.cls.getD c (n.cls.headD "")))
  noat : n.cls ≠ [] → ∀ c f, f < n.fls.length → NoAttr K (ga K (n.cls.getD c (n.cls.headD ""))) (n.fls.getD f "")
  xf : n.exs ≠ [] → ∀ c, XfC K (ga K (n.exs.getD c (n.exs.headD "")))
  no : n.exs ≠ [] → ∀ c, PySem.W.findIn K (.ref (ga K (n.exs.getD c (n.exs.headD "")))) n.xfn = some none
  exm : ∀ c c', c < n.exs.length → c' < n.exs.length → PySem.W.exmOne K (.ref (ga K (n.exs.getD c (n.exs.headD "")))) (.ref (ga K (n.exs.getD c' (n.exs.headD "")))) = some (n.sub c c')
theorem mo_of {n : Nm} {K : PySem.W.Frag} {mg : Str → Option Value} {h : Heap} (X : K.In h) (G : h.Ns mainGlobals mg) (q : moB n K = true) : Mo n K mg := by
  obtain ⟨h1, q⟩ := ba q
  obtain ⟨h2, q⟩ := ba q
  obtain ⟨h3, q⟩ := ba q
  obtain ⟨h4, h5⟩ := ba q
  refine ⟨fun x hx => free_ok X G (List.all_eq_true.mp h1 x (List.contains_iff_mem.mp hx)), fun x hx => glo_ok X G (List.all_eq_true.mp h2 x (List.contains_iff_mem.mp hx)), fun hn c => cls_ok (ba (List.all_eq_true.mp h3 _ (getD_mem hn c))).1, fun hn c f hf => ?_, fun hn c => xfB_ok (ba (List.all_eq_true.mp h4 _ (getD_mem hn c))).1, fun hn c => eqO_ok (ba (List.all_eq_true.mp h4 _ (getD_mem hn c))).2, fun c c' hc hc' => ?_⟩
  · refine noat_ok (List.all_eq_true.mp (ba (List.all_eq_true.mp h3 _ (getD_mem hn c))).2 _ ?_)
    rw [List.getD_eq_getElem?_getD, List.getElem?_eq_getElem hf]
    exact List.getElem_mem hf
  · exact of_decide_eq_true (List.all_eq_true.mp (List.all_eq_true.mp h5 c (List.mem_range.mpr hc)) c' (List.mem_range.mpr hc'))
section
variable {β : Type} {Q : Nat → β → Prop} {g : Nat} {y : β} {l : List (Nat × β)}
theorem lk_nil : ∀ f x, ([] : List (Nat × β)).lookup f = some x → Q f x := fun _ _ h => nomatch h
theorem lk_cons (h : Q g y) (r : ∀ f x, l.lookup f = some x → Q f x) : ∀ f x, ((g, y) :: l).lookup f = some x → Q f x := fun f x e => by
  rw [List.lookup_cons] at e
  cases q : (f == g) with
  | true =>
    rw [q] at e
    cases e
    rw [beq_iff_eq.mp q]
    exact h
  | false =>
    rw [q] at e
    exact r f x e
end
section
variable {P : Program} {w : World} {n : Nm} {K : PySem.W.Frag} {mg : Str → Option Value} {base : Heap} {hnd : n.fls.Nodup} {lvl : Nat} {C : Cfg} {k : Ck} {q : Cx2}
theorem FnAt.mono {T : Tab} {l l' : Nat} {fn : Fn} {a : Addr} (h : FnAt P w K mg base T l fn a) (hl : l ≤ l') : FnAt P w K mg base T l' fn a := by
  obtain ⟨j, fd, ps, hj, F, b⟩ := h
  exact ⟨j, fd, ps, by omega, F, b⟩
theorem Mo.wd (M : Mo n K mg) (nd : k.N.Nodup) (kind : k.sc.kind = .function) (fl : k.fl = fun i => n.fls.getD i "") (nf : k.nf = n.fls.length) (hc : k.cls = true → n.cls ≠ []) (hx : q.xns ≠ [] → n.exs ≠ []) (xfn : q.xfn = n.xfn) (sub : C.sub = n.sub)
    (call : ∀ f x, k.fns.lookup f = some x → FnAt P w K mg base (tabOf n K hnd) lvl (C.fn f) (ga K x) ∧ n.gls.contains x = true ∧ PySem.W.keepIn K (.ref (ga K x)) = true)
    (me : ∀ f cm, k.mes.lookup f = some cm → ∃ a, FnAt P w K mg base (tabOf n K hnd) lvl (C.fn f) a ∧ Meth K (ga K (n.cls.getD cm.1 (n.cls.headD ""))) cm.2 a ∧ n.fls.contains cm.2 = false)
    (mak : ∀ f cx, k.mks.lookup f = some cx → ∃ a l2, l2 + 1 = lvl ∧ FnAt P w K mg base (tabOf n K hnd) l2 (C.fn f) a ∧ n.gls.contains cx.2 = true ∧ n.cls.getD cx.1 (n.cls.headD "") = cx.2 ∧ Mk K (ga K cx.2) a)
    (xns : ∀ c x, q.xns.lookup c = some x → n.exs[c]? = some x ∧ n.gls.contains x = true)
    (rss : ∀ c x, q.rss.lookup c = some x → (∃ j fI fd ps, j + 1 ≤ lvl ∧ ExcF K n.xfn (ga K x) fI ∧ FnOk P w K mg base (L2.CX P w) j fI fd ps (spX (tabOf n K hnd) c) ∧ Binds K fd ps []) ∧ n.exs[c]? = some x ∧ n.gls.contains x = true) : Wd P w K mg base (tabOf n K hnd) lvl C k q := by
  have gx : ∀ {c x}, n.exs[c]? = some x → n.exs.getD c (n.exs.headD "") = x := fun e => by rw [List.getD_eq_getElem?_getD, e]; rfl
  have lx : ∀ {c x}, n.exs[c]? = some x → c < n.exs.length := fun e => (List.getElem?_eq_some_iff.mp e).1
  refine ⟨rfl, nd, kind, M.blt, fun f => by rw [fl]; rfl, nf, fun h => ⟨M.cls (hc h), M.noat (hc h)⟩, fun f x e => ?_, fun f c m e => ?_, fun f c x e => ?_, fun h => ⟨fun _ => rfl, M.xf (hx h), M.no (hx h), fun c c' h1 h2 => by rw [sub]; exact M.exm c c' h1 h2⟩, xfn.symm, fun c x e => ?_, fun c x e => ?_⟩
  · obtain ⟨a, b, d⟩ := call f x e
    exact ⟨_, a, M.glo _ b, d⟩
  · obtain ⟨a, b, d, no⟩ := me f (c, m) e
    refine ⟨⟨a, b, d⟩, fun g hg eg => ?_⟩
    have : n.fls.contains m = true := by
      rw [← eg]
      refine List.contains_iff_mem.mpr ?_
      show n.fls.getD g "" ∈ n.fls
      have hg : g < n.fls.length := hg
      rw [List.getD_eq_getElem?_getD, List.getElem?_eq_getElem hg]
      exact List.getElem_mem hg
    rw [this] at no
    cases no
  · obtain ⟨a, l2, el, b, gl, ec, M'⟩ := mak f (c, x) e
    refine ⟨a, l2, el, b, ?_, ?_⟩
    · show mg x = some (.ref (ga K (n.cls.getD c (n.cls.headD ""))))
      rw [ec]; exact M.glo _ gl
    · show Mk K (ga K (n.cls.getD c (n.cls.headD ""))) a
      rw [ec]; exact M'
  · obtain ⟨e1, e2⟩ := xns c x e
    refine ⟨?_, lx e1⟩
    show mg x = some (.ref (ga K (n.exs.getD c (n.exs.headD ""))))
    rw [gx e1]; exact M.glo _ e2
  · obtain ⟨⟨j, fI, fd, ps, hj, E, F, b⟩, e1, e2⟩ := rss c x e
    have ex : (tabOf n K hnd).xa c = ga K x := by
      show ga K (n.exs.getD c (n.exs.headD "")) = ga K x
      rw [gx e1]
    refine ⟨⟨j, fI, fd, ps, hj, by rw [ex]; exact E.ox, by rw [ex]; exact E.iC, E.tI, F, b, by rw [ex]; exact M.glo _ e2⟩, lx e1⟩
/-- the rule of a def, from the head's fact -/
theorem def_ok {name qual : Str} {params : Arguments} {body : List Stmt} {scope : Scope} {f : Addr} {fd : FuncData} {ps : List Str} {df : Df} {T : Tab} (F : FunD K name qual params body scope [] [] f fd) (wd : Wd P w K mg base T lvl C k q) (S : FnScope k.N ps scope) (hsc : scope = k.sc)
    (hprot : df.prot.length = ps.length) (hsl : df.slots = k.N.length) (hck : cSs k q df.body (fun i => df.prot.getD i false) body = true) (hb : Binds K fd ps []) : FnAt P w K mg base T (lvl + 1) (dF C df) f := by
  obtain ⟨oc, od, dV, kV, doc, pm, an, cdv, ct, osl, rfl, lk, hcd, _, _⟩ := F.ex
  exact ⟨lvl + 1, _, ps, Nat.le_refl _, fn_ok wd lk hcd S hsc hprot hsl hck, hb⟩
end
end Mp
/-! The end of a law. -/
namespace Mp
open PySem PySem.Spec PyProof.Rows L2 He
section
variable {P : Program} {w : World} {n : Nm} {K : PySem.W.Frag} {mg : Str → Option Value} {base : Heap} {lvl : Nat} {C : Cfg} {k : Ck} {q : Cx2} {T : Tab}
theorem def_fn {name qual : Str} {params : Arguments} {body : List Stmt} {scope : Scope} {f : Addr} {fd : FuncData} {ps : List Str} {df : Df} (F : FunD K name qual params body scope [] [] f fd) (wd : Wd P w K mg base T lvl C k q) (S : FnScope k.N ps scope) (hsc : scope = k.sc)
    (hprot : df.prot.length = ps.length) (hsl : df.slots = k.N.length) (hck : cSs k q df.body (fun i => df.prot.getD i false) body = true) : FnOk P w K mg base (L2.CX P w) (lvl + 1) f fd ps (spOf T (dF C df)) := by
  obtain ⟨oc, od, dV, kV, doc, pm, an, cdv, ct, osl, rfl, lk, hcd, _, _⟩ := F.ex
  exact fn_ok wd lk hcd S hsc hprot hsl hck
theorem def_none {name qual : Str} {params : Arguments} {body : List Stmt} {scope : Scope} {f : Addr} {fd : FuncData} {N ps : List Str} (F : FunD K name qual params body scope [] [] f fd) (S : FnScope N ps scope) (hb : Binds K fd ps []) (hl : 1 ≤ lvl) : FnAt P w K mg base T lvl (fun _ => .stuck) f := by
  obtain ⟨oc, od, dV, kV, doc, pm, an, cdv, ct, osl, rfl, lk, hcd, _, _⟩ := F.ex
  have no : ∀ {vs H Q E}, spOf T (fun _ => .stuck) vs H Q E → False := fun h => by
    obtain ⟨G, ds, F, _, _, _, _, z⟩ := h
    exact z
  exact ⟨1, _, ps, hl, fn_of (k := 0) lk hcd S (fun _ _ _ _ h => (no h).elim) fun _ _ _ _ _ _ _ _ h => (no h).elim, hb⟩
theorem walk_ofX {l : PySem.W.OpenLaw} {n k : Nat} {q : Program} {loose : List Str} {XP : (Str → Option Value) → Heap → Prop} {YP : World → Heap → Prop} {d : DefRec} {x : Str} {m : Fn} {Tf : PySem.W.Frag → Tab} (hT : ∀ K, (Tf K).K = K)
    (hn : l.most = some n) (hn2 : n ≤ sizeLine) (hdf : d.params.defaults = []) (hr : Room k callerA)
    (F : ∀ (w : World) (mg : Str → Option Value) (fa : Addr) (h : Heap), YP w h → h.Ns mainGlobals mg → mg d.name = some (.ref fa) →
      ∃ (K : PySem.W.Frag) (fd : FuncData), K.In h ∧ (∀ (s : Shared) (u : Value), BindsTo s fd ⟨[u], []⟩ [(x, u)]) ∧
        ∀ base : Heap, K.In base → base.Ns mainGlobals mg → FnOk l.prog w K mg base (L2.CX l.prog w) k fa fd [x] (spOf (Tf K) m))
    (hm : ∀ ns : List Int, ns.length ≤ n → ∃ outs, m [.scr ns] = .ok (.bl true) outs) :
    PySem.W.WalkO q loose XP YP l.row.toRowW d [] (fun f vs => PySem.call f vs) := by
  refine Att.attach_call hn hdf fun w s₀ s₁ mg mb fa o pm cd doc a vs ns G Y ho hd hcd hmg hobj hints hlen hg => ?_
  obtain ⟨K, fd, KX, hb, hF⟩ := F w mg fa _ Y G.T.g hmg
  refine law_call KX G.T.g G.T.b G.T.builtins G.T.nolimit hg hobj hints (Nat.le_trans hlen hn2) hr hF hb (fun H hO hS => ?_) fun H e s' ⟨a, B, H', cls, d, _, _, _, _, _, _, _, z⟩ => z.elim
  obtain ⟨outs, em⟩ := hm ns hlen
  refine ⟨H, [.scr ns], [], Ext.refl' H, ⟨_, _, [], [], rfl, rfl, ⟨⟨a, rfl, by rw [hT]; exact hS⟩, rfl⟩, rfl, rfl⟩, List.nodup_nil, (fun _ z => nomatch z), ?_⟩
  rw [em]
  intro v H' G' Fv F' _ hv _
  exact hv.1
end
end Mp
namespace k66
open Mp

def gl : Nat → D := fun i => ([] : List D).getD i .gone

def sub : Nat → Nat → Bool := fun i j => ([(0, 0), (1, 1), (1, 0), (2, 2), (2, 0)] : List (Nat × Nat)).contains (i, j)

-- slots: script=0, cells=1, each=2, deck=3, seed=4, k=5, cell=6, rest=7, at=8
def lx_l_law_deck_1 : Ss := (.cons (.ex (.bm .append (.var 3) (.cons (.bin .mod (.tm (.blt .int (.cons (.pl (.var 7)) .nil))) (.tm (.int 1000003))) .nil)))
  (.cons (.asg (.var 7) (.bin .fdiv (.pl (.var 7)) (.tm (.int 1000003))))
  .nil))
def lx_l_law_deck_2 : Ss := (.cons (.asg (.var 4) (.bin .mod (.tm (.blt .int (.cons (.tm (.bin .add (.tm (.bin .add (.tm (.bin .mul (.pl (.var 4)) (.tm (.int 69621)))) (.pl (.var 8)))) (.tm (.int 1)))) .nil))) (.tm (.int 2147483629))))
  (.cons (.ex (.bm .append (.var 3) (.cons (.bin .mod (.tm (.blt .int (.cons (.tm (.bin .fdiv (.pl (.var 4)) (.tm (.int 5)))) .nil))) (.tm (.int 1000003))) .nil)))
  .nil))
def lx_l_law_deck_3 : Ss := (.cons (.asg (.var 6) (.int 0))
  (.cons (.iff (.cmp .lt (.pl (.var 5)) (.tm (.blt .len (.cons (.pl (.var 0)) .nil))))
  (.cons (.asg (.var 6) (.rd (.ix (.var 0) (.rd (.var 5)))))
  .nil)
  .nil)
  (.cons (.asg (.var 7) (.blt .abs (.cons (.pl (.var 6)) .nil)))
  (.cons (.iff (.cmp .ge (.pl (.var 7)) (.tm (.bin .pow (.tm (.int 10)) (.tm (.int 30)))))
  (.cons (.for_ (.rng1 (.pl (.var 2))) (.var 8)
  lx_l_law_deck_1)
  .nil)
  (.cons (.asg (.var 4) (.bin .mod (.tm (.blt .int (.cons (.tm (.bin .add (.tm (.bin .add (.tm (.bin .add (.tm (.bin .mul (.pl (.var 4)) (.tm (.int 48271)))) (.tm (.bin .mul (.tm (.int 2)) (.pl (.var 7)))))) (.tm (.blt .int (.cons (.tm (.cmp .lt (.pl (.var 6)) (.tm (.int 0)))) .nil))))) (.pl (.var 5)))) .nil))) (.tm (.int 2147483647))))
  (.cons (.for_ (.rng1 (.pl (.var 2))) (.var 8)
  lx_l_law_deck_2)
  .nil)))
  .nil))))
def b_l_law_deck : Df := ⟨9, [true, true, true],
  (.cons (.asg (.var 3) (.lst .nil))
  (.cons (.asg (.var 4) (.bin .add (.tm (.int 7)) (.tm (.blt .len (.cons (.pl (.var 0)) .nil)))))
  (.cons (.for_ (.rng1 (.pl (.var 1))) (.var 5)
  lx_l_law_deck_3)
  (.cons (.ex (.bm .reverse (.var 3) .nil))
  (.cons (.ret (.mv 3))
  .nil)))))⟩
def c_l_law_deck : Cfg := ⟨fun i => match i with  | _ => fun _ => .stuck, gl, sub, 100000⟩
@[simp] theorem c_l_law_deck_sub : c_l_law_deck.sub = sub := rfl
def m_l_law_deck : Fn := dF c_l_law_deck b_l_law_deck

-- slots: deck=0, many=1
def b_l_law_take : Df := ⟨2, [true, true],
  (.cons (.iff (.cmp .eq (.tm (.blt .len (.cons (.pl (.var 0)) .nil))) (.tm (.int 0)))
  (.cons (.ret (.int 0))
  .nil)
  .nil)
  (.cons (.ret (.bin .mod (.tm (.blt .int (.cons (.tm (.bm .pop0 (.var 0) .nil)) .nil))) (.pl (.var 1))))
  .nil))⟩
def c_l_law_take : Cfg := ⟨fun i => match i with  | _ => fun _ => .stuck, gl, sub, 100000⟩
@[simp] theorem c_l_law_take_sub : c_l_law_take.sub = sub := rfl
def m_l_law_take : Fn := dF c_l_law_take b_l_law_take

-- slots: self=0, vertices=1, edges=2, first=3, second=4
def ex_Graph___init___1 : E := (.tup (.cons (.rd (.var 3)) (.cons (.rd (.var 4)) .nil)))
def lx_Graph___init___2 : Ss := (.cons (.iff (.or (.not (.chain .le .lt (.tm (.int 0)) (.pl (.var 3)) (.pl (.var 1)))) (.not (.chain .le .lt (.tm (.int 0)) (.pl (.var 4)) (.pl (.var 1)))))
  (.cons (.rs 1 (.cons (.str "edges") .nil))
  .nil)
  .nil)
  .nil)
def b_Graph___init__ : Df := ⟨5, [true, true, true],
  (.cons (.iff (.cmp .lt (.pl (.var 1)) (.tm (.int 0)))
  (.cons (.rs 1 (.cons (.str "vertices") .nil))
  .nil)
  .nil)
  (.cons (.for_ (.lock 2) (.tup (.cons (.var 3) (.cons (.var 4) .nil)))
  lx_Graph___init___2)
  (.cons (.sfld (.var 0) 0 (.rd (.var 1)))
  (.cons (.sfld (.var 0) 1 (.blt .tuple (.cons (.tm (.lc (.lock 2) (.tup (.cons (.var 3) (.cons (.var 4) .nil))) [3, 4] .nil ex_Graph___init___1)) .nil)))
  .nil))))⟩
def c_Graph___init__ : Cfg := ⟨fun i => match i with  | _ => fun _ => .stuck, gl, sub, 100000⟩
@[simp] theorem c_Graph___init___sub : c_Graph___init__.sub = sub := rfl
def m_Graph___init__ : Fn := dF c_Graph___init__ b_Graph___init__

-- slots: deck=0, vertices=1, most=2, turn=3
def ex_l_law_edges_1 : E := (.tup (.cons (.call 1 (.cons (.pl (.var 0)) (.cons (.pl (.var 1)) .nil))) (.cons (.call 1 (.cons (.pl (.var 0)) (.cons (.pl (.var 1)) .nil))) .nil)))
def b_l_law_edges : Df := ⟨4, [true, true, true],
  (.cons (.ret (.lc (.rng1 (.tm (.call 1 (.cons (.pl (.var 0)) (.cons (.tm (.bin .add (.pl (.var 2)) (.tm (.int 1)))) .nil))))) (.var 3) [3] .nil ex_l_law_edges_1))
  .nil)⟩
def c_l_law_edges : Cfg := ⟨fun i => match i with | 1 => m_l_law_take | _ => fun _ => .stuck, gl, sub, 100000⟩
@[simp] theorem c_l_law_edges_1 : c_l_law_edges.fn 1 = m_l_law_take := rfl
@[simp] theorem c_l_law_edges_sub : c_l_law_edges.sub = sub := rfl
def m_l_law_edges : Fn := dF c_l_law_edges b_l_law_edges

-- slots: value=0, item=1
def ex_l_law_plain_1 : E := (.call 4 (.cons (.pl (.var 1)) .nil))
def b_l_law_plain : Df := ⟨2, [true],
  (.cons (.iff (.tr (.tm (.blt (.isinst2 .tuple .list) (.cons (.pl (.var 0)) .nil))))
  (.cons (.ret (.bin .add (.tm (.lst (.cons (.blt (.isinst .list) (.cons (.pl (.var 0)) .nil)) .nil))) (.tm (.lc (.lock 0) (.var 1) [1] .nil ex_l_law_plain_1))))
  .nil)
  .nil)
  (.cons (.iff (.or (.cmp .is_ (.pl (.var 0)) (.tm .non)) (.tr (.tm (.blt (.isinst .bool) (.cons (.pl (.var 0)) .nil)))))
  (.cons (.ret (.sub (.tm (.lst (.cons (.str "None") (.cons (.str "False") (.cons (.str "True") .nil))))) (.tm (.bin .add (.tm (.blt .int (.cons (.tm (.cmp .isnot (.pl (.var 0)) (.tm .non))) .nil))) (.tm (.blt .int (.cons (.tm (.cmp .is_ (.pl (.var 0)) (.tm (.bl true)))) .nil)))))))
  .nil)
  .nil)
  (.cons (.iff (.tr (.tm (.blt (.isinst2 .int .str) (.cons (.pl (.var 0)) .nil))))
  (.cons (.ret (.lst (.cons (.blt (.isinst .str) (.cons (.pl (.var 0)) .nil)) (.cons (.rd (.var 0)) .nil))))
  .nil)
  .nil)
  (.cons (.ret (.str "another"))
  .nil))))⟩
def c_l_law_plain (self : Fn) : Cfg := ⟨fun i => match i with  | 4 => self | _ => fun _ => .stuck, gl, sub, 100000⟩
@[simp] theorem c_l_law_plain_4 (self : Fn) : (c_l_law_plain self).fn 4 = self := rfl
def r_l_law_plain : Nat → Fn
  | 0 => fun _ => .stuck
  | n + 1 => dF (c_l_law_plain (r_l_law_plain n)) b_l_law_plain
def m_l_law_plain : Fn := r_l_law_plain 60

-- slots: vertices=0, edges=1, names=2, first=3, second=4, least=5, greatest=6, name=7
def ex_l_law_names_1 : E := (.ife (.cmp .eq (.pl (.var 7)) (.pl (.var 6))) (.rd (.var 5)) (.rd (.var 7)))
def lx_l_law_names_2 : Ss := (.cons (.asg (.var 5) (.blt .min2 (.cons (.pl (.ix (.var 2) (.rd (.var 3)))) (.cons (.pl (.ix (.var 2) (.rd (.var 4)))) .nil))))
  (.cons (.asg (.var 6) (.blt .max2 (.cons (.pl (.ix (.var 2) (.rd (.var 3)))) (.cons (.pl (.ix (.var 2) (.rd (.var 4)))) .nil))))
  (.cons (.asg (.var 2) (.lc (.lock 2) (.var 7) [7] .nil ex_l_law_names_1))
  .nil)))
def b_l_law_names : Df := ⟨8, [true, true],
  (.cons (.asg (.var 2) (.rng (.cons (.pl (.var 0)) .nil)))
  (.cons (.for_ (.lock 1) (.tup (.cons (.var 3) (.cons (.var 4) .nil)))
  lx_l_law_names_2)
  (.cons (.ret (.mv 2))
  .nil)))⟩
def c_l_law_names : Cfg := ⟨fun i => match i with  | _ => fun _ => .stuck, gl, sub, 100000⟩
@[simp] theorem c_l_law_names_sub : c_l_law_names.sub = sub := rfl
def m_l_law_names : Fn := dF c_l_law_names b_l_law_names

-- slots: vertices=0, edges=1
def b_l_law_rank : Df := ⟨2, [true, true],
  (.cons (.ret (.bin .sub (.pl (.var 0)) (.tm (.blt .lenset (.cons (.tm (.call 5 (.cons (.pl (.var 0)) (.cons (.pl (.var 1)) .nil)))) .nil)))))
  .nil)⟩
def c_l_law_rank : Cfg := ⟨fun i => match i with | 5 => m_l_law_names | _ => fun _ => .stuck, gl, sub, 100000⟩
@[simp] theorem c_l_law_rank_5 : c_l_law_rank.fn 5 = m_l_law_names := rfl
@[simp] theorem c_l_law_rank_sub : c_l_law_rank.sub = sub := rfl
def m_l_law_rank : Fn := dF c_l_law_rank b_l_law_rank

-- slots: names=0, first=1, second=2, least=3, greatest=4, vertex=5
def lx_merged_1 : Ss := (.cons (.iff (.cmp .eq (.pl (.ix (.var 0) (.rd (.var 5)))) (.pl (.var 4)))
  (.cons (.six (.var 0) (.rd (.var 5)) (.rd (.var 3)))
  .nil)
  .nil)
  .nil)
def b_merged : Df := ⟨6, [true, true, true],
  (.cons (.asg (.var 3) (.blt .min2 (.cons (.pl (.ix (.var 0) (.rd (.var 1)))) (.cons (.pl (.ix (.var 0) (.rd (.var 2)))) .nil))))
  (.cons (.asg (.var 4) (.blt .max2 (.cons (.pl (.ix (.var 0) (.rd (.var 1)))) (.cons (.pl (.ix (.var 0) (.rd (.var 2)))) .nil))))
  (.cons (.iff (.cmp .lt (.pl (.var 3)) (.pl (.var 4)))
  (.cons (.for_ (.rng1 (.tm (.blt .len (.cons (.pl (.var 0)) .nil)))) (.var 5)
  lx_merged_1)
  .nil)
  .nil)
  .nil)))⟩
def c_merged : Cfg := ⟨fun i => match i with  | _ => fun _ => .stuck, gl, sub, 100000⟩
@[simp] theorem c_merged_sub : c_merged.sub = sub := rfl
def m_merged : Fn := dF c_merged b_merged

-- slots: vertices=0, edges=1, names=2, first=3, second=4
def lx_groups_1 : Ss := (.cons (.ex (.call 7 (.cons (.pl (.var 2)) (.cons (.pl (.var 3)) (.cons (.pl (.var 4)) .nil)))))
  .nil)
def b_groups : Df := ⟨5, [true, true],
  (.cons (.asg (.var 2) (.rng (.cons (.pl (.var 0)) .nil)))
  (.cons (.for_ (.lock 1) (.tup (.cons (.var 3) (.cons (.var 4) .nil)))
  lx_groups_1)
  (.cons (.ret (.mv 2))
  .nil)))⟩
def c_groups : Cfg := ⟨fun i => match i with | 7 => m_merged | _ => fun _ => .stuck, gl, sub, 100000⟩
@[simp] theorem c_groups_7 : c_groups.fn 7 = m_merged := rfl
@[simp] theorem c_groups_sub : c_groups.sub = sub := rfl
def m_groups : Fn := dF c_groups b_groups

-- slots: self=0, names=1, found=2, vertex=3, name=4
def ex_Graph_components_1 : E := (.rd (.ix (.var 2) (.rd (.var 4))))
def lx_Graph_components_2 : Ss := (.cons (.ex (.bm .setdef (.var 2) (.cons (.rd (.ix (.var 1) (.rd (.var 3)))) (.cons (.lst .nil) .nil))))
  (.cons (.ex (.bm .append (.ix (.var 2) (.rd (.ix (.var 1) (.rd (.var 3))))) (.cons (.rd (.var 3)) .nil)))
  .nil))
def b_Graph_components : Df := ⟨5, [true],
  (.cons (.asg (.var 1) (.call 8 (.cons (.pl (.fld (.var 0) 0)) (.cons (.pl (.fld (.var 0) 1)) .nil))))
  (.cons (.asg (.var 2) (.dnew true))
  (.cons (.for_ (.rng1 (.pl (.fld (.var 0) 0))) (.var 3)
  lx_Graph_components_2)
  (.cons (.ret (.lc (.seq (.tm (.blt .sorted (.cons (.pl (.var 2)) .nil)))) (.var 4) [4] .nil ex_Graph_components_1))
  .nil))))⟩
def c_Graph_components : Cfg := ⟨fun i => match i with | 8 => m_groups | _ => fun _ => .stuck, gl, sub, 100000⟩
@[simp] theorem c_Graph_components_8 : c_Graph_components.fn 8 = m_groups := rfl
@[simp] theorem c_Graph_components_sub : c_Graph_components.sub = sub := rfl
def m_Graph_components : Fn := dF c_Graph_components b_Graph_components

-- slots: self=0
def b_Graph_is_connected : Df := ⟨1, [true],
  (.cons (.ret (.cmp .eq (.tm (.blt .len (.cons (.tm (.meth 9 0 (.pl (.var 0)) .nil)) .nil))) (.tm (.int 1))))
  .nil)⟩
def c_Graph_is_connected : Cfg := ⟨fun i => match i with | 9 => m_Graph_components | _ => fun _ => .stuck, gl, sub, 100000⟩
@[simp] theorem c_Graph_is_connected_9 : c_Graph_is_connected.fn 9 = m_Graph_components := rfl
@[simp] theorem c_Graph_is_connected_sub : c_Graph_is_connected.sub = sub := rfl
def m_Graph_is_connected : Fn := dF c_Graph_is_connected b_Graph_is_connected

-- slots: self=0, vertex=1, first=2, second=3
def ex_Graph_degree_1 : E := (.bin .add (.tm (.blt .int (.cons (.tm (.cmp .eq (.pl (.var 2)) (.pl (.var 1)))) .nil))) (.tm (.blt .int (.cons (.tm (.cmp .eq (.pl (.var 3)) (.pl (.var 1)))) .nil))))
def b_Graph_degree : Df := ⟨4, [true, true],
  (.cons (.iff (.not (.chain .le .lt (.tm (.int 0)) (.pl (.var 1)) (.pl (.fld (.var 0) 0))))
  (.cons (.rs 1 (.cons (.str "vertex") .nil))
  .nil)
  .nil)
  (.cons (.ret (.blt .sum (.cons (.tm (.lc (.seq (.pl (.fld (.var 0) 1))) (.tup (.cons (.var 2) (.cons (.var 3) .nil))) [2, 3] .nil ex_Graph_degree_1)) .nil)))
  .nil))⟩
def c_Graph_degree : Cfg := ⟨fun i => match i with  | _ => fun _ => .stuck, gl, sub, 100000⟩
@[simp] theorem c_Graph_degree_sub : c_Graph_degree.sub = sub := rfl
def m_Graph_degree : Fn := dF c_Graph_degree b_Graph_degree

-- slots: self=0, edges=1, edge=2, names=3, vertex=4
def cx_Graph_rank_of_1 : Cs := (.one (.cmp .eq (.pl (.ix (.var 3) (.rd (.var 4)))) (.pl (.var 4))))
def ex_Graph_rank_of_2 : E := (.rd (.var 4))
def ex_Graph_rank_of_3 : E := (.rd (.ix (.fld (.var 0) 1) (.rd (.var 2))))
def lx_Graph_rank_of_4 : Ss := (.cons (.iff (.not (.chain .le .lt (.tm (.int 0)) (.pl (.var 2)) (.tm (.blt .len (.cons (.pl (.fld (.var 0) 1)) .nil)))))
  (.cons (.rs 2 (.cons (.str "edges") .nil))
  .nil)
  .nil)
  .nil)
def b_Graph_rank_of : Df := ⟨5, [true, true],
  (.cons (.for_ (.lock 1) (.var 2)
  lx_Graph_rank_of_4)
  (.cons (.asg (.var 3) (.call 8 (.cons (.pl (.fld (.var 0) 0)) (.cons (.tm (.lc (.lock 1) (.var 2) [2] .nil ex_Graph_rank_of_3)) .nil))))
  (.cons (.ret (.bin .sub (.pl (.fld (.var 0) 0)) (.tm (.blt .len (.cons (.tm (.lc (.rng1 (.pl (.fld (.var 0) 0))) (.var 4) [4] cx_Graph_rank_of_1 ex_Graph_rank_of_2)) .nil)))))
  .nil)))⟩
def c_Graph_rank_of : Cfg := ⟨fun i => match i with | 8 => m_groups | _ => fun _ => .stuck, gl, sub, 100000⟩
@[simp] theorem c_Graph_rank_of_8 : c_Graph_rank_of.fn 8 = m_groups := rfl
@[simp] theorem c_Graph_rank_of_sub : c_Graph_rank_of.sub = sub := rfl
def m_Graph_rank_of : Fn := dF c_Graph_rank_of b_Graph_rank_of

-- slots: deck=0, graph=1, vertices=2, edges=3, names=4, parts=5, name=6, told=7, vertex=8, some=9, due=10, edge=11, first=12, second=13
def st_l_law_graph_right_1 : S := (.ret (.cmp .eq (.tm (.call 4 (.cons (.tm (.lst (.cons (.meth 12 0 (.pl (.var 1)) (.cons (.pl (.var 9)) .nil)) (.cons (.meth 12 0 (.pl (.var 1)) (.cons (.tm (.blt .tuple (.cons (.pl (.var 9)) .nil))) .nil)) .nil)))) .nil))) (.tm (.call 4 (.cons (.tm (.lst (.cons (.rd (.var 10)) (.cons (.rd (.var 10)) .nil)))) .nil)))))
def ex_l_law_graph_right_1 : E := (.rd (.ix (.var 3) (.rd (.var 11))))
def st_l_law_graph_right_2 : S := (.asg (.var 10) (.call 6 (.cons (.pl (.var 2)) (.cons (.tm (.lc (.lock 9) (.var 11) [11] .nil ex_l_law_graph_right_1)) .nil))))
def cx_l_law_graph_right_2 : Cs := (.one (.cmp .eq (.tm (.call 1 (.cons (.pl (.var 0)) (.cons (.tm (.int 2)) .nil)))) (.tm (.int 0))))
def ex_l_law_graph_right_3 : E := (.rd (.var 11))
def st_l_law_graph_right_3 : S := (.asg (.var 9) (.lc (.rng1 (.tm (.blt .len (.cons (.pl (.var 3)) .nil)))) (.var 11) [11] cx_l_law_graph_right_2 ex_l_law_graph_right_3))
def ex_l_law_graph_right_4 : E := (.bin .add (.tm (.blt .int (.cons (.tm (.cmp .eq (.pl (.var 12)) (.pl (.var 8)))) .nil))) (.tm (.blt .int (.cons (.tm (.cmp .eq (.pl (.var 13)) (.pl (.var 8)))) .nil))))
def lx_l_law_graph_right_5 : Ss := (.cons (.asg (.var 10) (.blt .sum (.cons (.tm (.lc (.lock 3) (.tup (.cons (.var 12) (.cons (.var 13) .nil))) [12, 13] .nil ex_l_law_graph_right_4)) .nil)))
  (.cons (.iff (.cmp .ne (.tm (.call 4 (.cons (.tm (.meth 11 0 (.pl (.var 1)) (.cons (.pl (.var 8)) .nil))) .nil))) (.tm (.call 4 (.cons (.pl (.var 10)) .nil))))
  (.cons (.ret (.bl false))
  .nil)
  .nil)
  .nil))
def st_l_law_graph_right_4 : S := (.for_ (.rng1 (.pl (.var 2))) (.var 8)
  lx_l_law_graph_right_5)
def st_l_law_graph_right_5 : S := (.iff (.cmp .ne (.tm (.call 4 (.cons (.pl (.var 7)) .nil))) (.tm (.call 4 (.cons (.tm (.lst (.cons (.rd (.var 5)) (.cons (.cmp .eq (.tm (.blt .len (.cons (.pl (.var 5)) .nil))) (.tm (.int 1))) .nil)))) .nil))))
  (.cons (.ret (.bl false))
  .nil)
  .nil)
def st_l_law_graph_right_6 : S := (.asg (.var 7) (.lst (.cons (.meth 9 0 (.pl (.var 1)) .nil) (.cons (.meth 10 0 (.pl (.var 1)) .nil) .nil))))
def cx_l_law_graph_right_6 : Cs := (.one (.cmp .eq (.pl (.ix (.var 4) (.rd (.var 8)))) (.pl (.var 6))))
def ex_l_law_graph_right_7 : E := (.rd (.var 8))
def lx_l_law_graph_right_8 : Ss := (.cons (.ex (.bm .append (.var 5) (.cons (.lc (.rng1 (.pl (.var 2))) (.var 8) [8] cx_l_law_graph_right_6 ex_l_law_graph_right_7) .nil)))
  .nil)
def st_l_law_graph_right_7 : S := (.for_ (.seq (.tm (.blt .sortedset (.cons (.pl (.var 4)) .nil)))) (.var 6)
  lx_l_law_graph_right_8)
def st_l_law_graph_right_8 : S := (.asg (.var 5) (.lst .nil))
def st_l_law_graph_right_9 : S := (.asg (.var 4) (.call 5 (.cons (.pl (.var 2)) (.cons (.pl (.var 3)) .nil))))
def b_l_law_graph_right : Df := ⟨14, [true, true, true, true],
  (.cons st_l_law_graph_right_9
  (.cons st_l_law_graph_right_8
  (.cons st_l_law_graph_right_7
  (.cons st_l_law_graph_right_6
  (.cons st_l_law_graph_right_5
  (.cons st_l_law_graph_right_4
  (.cons st_l_law_graph_right_3
  (.cons st_l_law_graph_right_2
  (.cons st_l_law_graph_right_1
  .nil)))))))))⟩
def c_l_law_graph_right : Cfg := ⟨fun i => match i with | 5 => m_l_law_names | 6 => m_l_law_rank | 9 => m_Graph_components | 10 => m_Graph_is_connected | 4 => m_l_law_plain | 11 => m_Graph_degree | 1 => m_l_law_take | 12 => m_Graph_rank_of | _ => fun _ => .stuck, gl, sub, 100000⟩
@[simp] theorem c_l_law_graph_right_5 : c_l_law_graph_right.fn 5 = m_l_law_names := rfl
@[simp] theorem c_l_law_graph_right_6 : c_l_law_graph_right.fn 6 = m_l_law_rank := rfl
@[simp] theorem c_l_law_graph_right_9 : c_l_law_graph_right.fn 9 = m_Graph_components := rfl
@[simp] theorem c_l_law_graph_right_10 : c_l_law_graph_right.fn 10 = m_Graph_is_connected := rfl
@[simp] theorem c_l_law_graph_right_4 : c_l_law_graph_right.fn 4 = m_l_law_plain := rfl
@[simp] theorem c_l_law_graph_right_11 : c_l_law_graph_right.fn 11 = m_Graph_degree := rfl
@[simp] theorem c_l_law_graph_right_1 : c_l_law_graph_right.fn 1 = m_l_law_take := rfl
@[simp] theorem c_l_law_graph_right_12 : c_l_law_graph_right.fn 12 = m_Graph_rank_of := rfl
@[simp] theorem c_l_law_graph_right_sub : c_l_law_graph_right.sub = sub := rfl
def m_l_law_graph_right : Fn := dF c_l_law_graph_right b_l_law_graph_right

-- slots: vertices=0, edges=1, edge=2, low=3, high=4, rest=5, found=6, first=7, second=8, pair=9, vertex=10
def lx_l_law_contracted_1 : Ss := (.cons (.iff (.cmp .eq (.pl (.var 10)) (.pl (.var 4)))
  (.cons (.ex (.bm .append (.var 9) (.cons (.rd (.var 3)) .nil)))
  .nil)
  (.cons (.ex (.bm .append (.var 9) (.cons (.bin .sub (.pl (.var 10)) (.tm (.blt .int (.cons (.tm (.cmp .gt (.pl (.var 10)) (.pl (.var 4)))) .nil)))) .nil)))
  .nil))
  .nil)
def lx_l_law_contracted_2 : Ss := (.cons (.asg (.var 9) (.lst .nil))
  (.cons (.for_ (.seq (.tm (.tup (.cons (.rd (.var 7)) (.cons (.rd (.var 8)) .nil))))) (.var 10)
  lx_l_law_contracted_1)
  (.cons (.ex (.bm .append (.var 6) (.cons (.tup (.cons (.rd (.ix (.var 9) (.int 0))) (.cons (.rd (.ix (.var 9) (.int 1))) .nil))) .nil)))
  .nil)))
def b_l_law_contracted : Df := ⟨11, [true, true, true],
  (.cons (.asg (.var 3) (.blt .min1 (.cons (.pl (.ix (.var 1) (.rd (.var 2)))) .nil)))
  (.cons (.asg (.var 4) (.blt .max1 (.cons (.pl (.ix (.var 1) (.rd (.var 2)))) .nil)))
  (.cons (.asg (.var 5) (.bin .add (.tm (.slc (.pl (.var 1)) .nil (.cons (.rd (.var 2)) .nil) 0)) (.tm (.slc (.pl (.var 1)) (.cons (.bin .add (.pl (.var 2)) (.tm (.int 1))) .nil) .nil 0))))
  (.cons (.iff (.cmp .eq (.pl (.var 3)) (.pl (.var 4)))
  (.cons (.ret (.tup (.cons (.rd (.var 0)) (.cons (.mv 5) .nil))))
  .nil)
  .nil)
  (.cons (.asg (.var 6) (.lst .nil))
  (.cons (.for_ (.lock 5) (.tup (.cons (.var 7) (.cons (.var 8) .nil)))
  lx_l_law_contracted_2)
  (.cons (.ret (.tup (.cons (.bin .sub (.pl (.var 0)) (.tm (.int 1))) (.cons (.mv 6) .nil))))
  .nil)))))))⟩
def c_l_law_contracted : Cfg := ⟨fun i => match i with  | _ => fun _ => .stuck, gl, sub, 100000⟩
@[simp] theorem c_l_law_contracted_sub : c_l_law_contracted.sub = sub := rfl
def m_l_law_contracted : Fn := dF c_l_law_contracted b_l_law_contracted

-- slots: self=0, edge=1
def b_Graph_check_edge : Df := ⟨2, [true, true],
  (.cons (.iff (.not (.chain .le .lt (.tm (.int 0)) (.pl (.var 1)) (.tm (.blt .len (.cons (.pl (.fld (.var 0) 1)) .nil)))))
  (.cons (.rs 1 (.cons (.str "edge") .nil))
  .nil)
  .nil)
  .nil)⟩
def c_Graph_check_edge : Cfg := ⟨fun i => match i with  | _ => fun _ => .stuck, gl, sub, 100000⟩
@[simp] theorem c_Graph_check_edge_sub : c_Graph_check_edge.sub = sub := rfl
def m_Graph_check_edge : Fn := dF c_Graph_check_edge b_Graph_check_edge

-- slots: self=0, edge=1
def b_Graph_deleted : Df := ⟨2, [true, true],
  (.cons (.ex (.meth 15 0 (.pl (.var 0)) (.cons (.pl (.var 1)) .nil)))
  (.cons (.ret (.make 2 0 true (.cons (.pl (.fld (.var 0) 0)) (.cons (.tm (.bin .add (.tm (.slc (.pl (.fld (.var 0) 1)) .nil (.cons (.rd (.var 1)) .nil) 0)) (.tm (.slc (.pl (.fld (.var 0) 1)) (.cons (.bin .add (.pl (.var 1)) (.tm (.int 1))) .nil) .nil 0)))) .nil))))
  .nil))⟩
def c_Graph_deleted : Cfg := ⟨fun i => match i with | 15 => m_Graph_check_edge | 2 => m_Graph___init__ | _ => fun _ => .stuck, gl, sub, 100000⟩
@[simp] theorem c_Graph_deleted_15 : c_Graph_deleted.fn 15 = m_Graph_check_edge := rfl
@[simp] theorem c_Graph_deleted_2 : c_Graph_deleted.fn 2 = m_Graph___init__ := rfl
@[simp] theorem c_Graph_deleted_sub : c_Graph_deleted.sub = sub := rfl
def m_Graph_deleted : Fn := dF c_Graph_deleted b_Graph_deleted

-- slots: self=0, edge=1, low=2, high=3, rest=4, names=5, first=6, second=7
def ex_Graph_contracted_1 : E := (.tup (.cons (.rd (.ix (.var 5) (.rd (.var 6)))) (.cons (.rd (.ix (.var 5) (.rd (.var 7)))) .nil)))
def b_Graph_contracted : Df := ⟨8, [true, true],
  (.cons (.ex (.meth 15 0 (.pl (.var 0)) (.cons (.pl (.var 1)) .nil)))
  (.cons (.asg (.var 2) (.blt .min1 (.cons (.pl (.ix (.fld (.var 0) 1) (.rd (.var 1)))) .nil)))
  (.cons (.asg (.var 3) (.blt .max1 (.cons (.pl (.ix (.fld (.var 0) 1) (.rd (.var 1)))) .nil)))
  (.cons (.asg (.var 4) (.bin .add (.tm (.slc (.pl (.fld (.var 0) 1)) .nil (.cons (.rd (.var 1)) .nil) 0)) (.tm (.slc (.pl (.fld (.var 0) 1)) (.cons (.bin .add (.pl (.var 1)) (.tm (.int 1))) .nil) .nil 0))))
  (.cons (.iff (.cmp .eq (.pl (.var 2)) (.pl (.var 3)))
  (.cons (.ret (.make 2 0 true (.cons (.pl (.fld (.var 0) 0)) (.cons (.pl (.var 4)) .nil))))
  .nil)
  .nil)
  (.cons (.asg (.var 5) (.bin .add (.tm (.bin .add (.tm (.rng (.cons (.pl (.var 3)) .nil))) (.tm (.lst (.cons (.rd (.var 2)) .nil))))) (.tm (.rng (.cons (.pl (.var 3)) (.cons (.tm (.bin .sub (.pl (.fld (.var 0) 0)) (.tm (.int 1)))) .nil))))))
  (.cons (.ret (.make 2 0 true (.cons (.tm (.bin .sub (.pl (.fld (.var 0) 0)) (.tm (.int 1)))) (.cons (.tm (.lc (.lock 4) (.tup (.cons (.var 6) (.cons (.var 7) .nil))) [6, 7] .nil ex_Graph_contracted_1)) .nil))))
  .nil)))))))⟩
def c_Graph_contracted : Cfg := ⟨fun i => match i with | 15 => m_Graph_check_edge | 2 => m_Graph___init__ | _ => fun _ => .stuck, gl, sub, 100000⟩
@[simp] theorem c_Graph_contracted_15 : c_Graph_contracted.fn 15 = m_Graph_check_edge := rfl
@[simp] theorem c_Graph_contracted_2 : c_Graph_contracted.fn 2 = m_Graph___init__ := rfl
@[simp] theorem c_Graph_contracted_sub : c_Graph_contracted.sub = sub := rfl
def m_Graph_contracted : Fn := dF c_Graph_contracted b_Graph_contracted

-- slots: self=0, edge=1, first=2, second=3
def b_Graph_reversed_edge : Df := ⟨4, [true, true],
  (.cons (.ex (.meth 15 0 (.pl (.var 0)) (.cons (.pl (.var 1)) .nil)))
  (.cons (.asg (.tup (.cons (.var 2) (.cons (.var 3) .nil))) (.rd (.ix (.fld (.var 0) 1) (.rd (.var 1)))))
  (.cons (.ret (.make 2 0 true (.cons (.pl (.fld (.var 0) 0)) (.cons (.tm (.bin .add (.tm (.bin .add (.tm (.slc (.pl (.fld (.var 0) 1)) .nil (.cons (.rd (.var 1)) .nil) 0)) (.tm (.tup (.cons (.tup (.cons (.rd (.var 3)) (.cons (.rd (.var 2)) .nil))) .nil))))) (.tm (.slc (.pl (.fld (.var 0) 1)) (.cons (.bin .add (.pl (.var 1)) (.tm (.int 1))) .nil) .nil 0)))) .nil))))
  .nil)))⟩
def c_Graph_reversed_edge : Cfg := ⟨fun i => match i with | 15 => m_Graph_check_edge | 2 => m_Graph___init__ | _ => fun _ => .stuck, gl, sub, 100000⟩
@[simp] theorem c_Graph_reversed_edge_15 : c_Graph_reversed_edge.fn 15 = m_Graph_check_edge := rfl
@[simp] theorem c_Graph_reversed_edge_2 : c_Graph_reversed_edge.fn 2 = m_Graph___init__ := rfl
@[simp] theorem c_Graph_reversed_edge_sub : c_Graph_reversed_edge.sub = sub := rfl
def m_Graph_reversed_edge : Fn := dF c_Graph_reversed_edge b_Graph_reversed_edge

-- slots: ask=0, graph=1, one=2, two=3, error=4
def b_l_law_refusal : Df := ⟨5, [true, true, true, true],
  (.cons (.try_ (.cons (.iff (.cmp .eq (.pl (.var 0)) (.tm (.int 0)))
  (.cons (.ex (.make 2 0 true (.cons (.pl (.var 2)) (.cons (.pl (.var 3)) .nil))))
  .nil)
  (.cons (.iff (.cmp .eq (.pl (.var 0)) (.tm (.int 1)))
  (.cons (.ex (.meth 11 0 (.pl (.var 1)) (.cons (.pl (.var 2)) .nil)))
  .nil)
  (.cons (.iff (.cmp .eq (.pl (.var 0)) (.tm (.int 2)))
  (.cons (.ex (.meth 16 0 (.pl (.var 1)) (.cons (.pl (.var 2)) .nil)))
  .nil)
  (.cons (.iff (.cmp .eq (.pl (.var 0)) (.tm (.int 3)))
  (.cons (.ex (.meth 17 0 (.pl (.var 1)) (.cons (.pl (.var 2)) .nil)))
  .nil)
  (.cons (.iff (.cmp .eq (.pl (.var 0)) (.tm (.int 4)))
  (.cons (.ex (.meth 18 0 (.pl (.var 1)) (.cons (.pl (.var 2)) .nil)))
  .nil)
  (.cons (.ex (.meth 12 0 (.pl (.var 1)) (.cons (.pl (.var 3)) .nil)))
  .nil))
  .nil))
  .nil))
  .nil))
  .nil))
  .nil)
  (.cons 1 (some 4)
  (.ret (.pair (.str "graph") .what))
  (.cons 2 (some 4)
  (.ret (.pair (.str "set") .what))
  .nil)))
  (.cons (.ret .non)
  .nil))⟩
def c_l_law_refusal : Cfg := ⟨fun i => match i with | 2 => m_Graph___init__ | 11 => m_Graph_degree | 16 => m_Graph_deleted | 17 => m_Graph_contracted | 18 => m_Graph_reversed_edge | 12 => m_Graph_rank_of | _ => fun _ => .stuck, gl, sub, 100000⟩
@[simp] theorem c_l_law_refusal_2 : c_l_law_refusal.fn 2 = m_Graph___init__ := rfl
@[simp] theorem c_l_law_refusal_11 : c_l_law_refusal.fn 11 = m_Graph_degree := rfl
@[simp] theorem c_l_law_refusal_16 : c_l_law_refusal.fn 16 = m_Graph_deleted := rfl
@[simp] theorem c_l_law_refusal_17 : c_l_law_refusal.fn 17 = m_Graph_contracted := rfl
@[simp] theorem c_l_law_refusal_18 : c_l_law_refusal.fn 18 = m_Graph_reversed_edge := rfl
@[simp] theorem c_l_law_refusal_12 : c_l_law_refusal.fn 12 = m_Graph_rank_of := rfl
@[simp] theorem c_l_law_refusal_sub : c_l_law_refusal.sub = sub := rfl
def m_l_law_refusal : Fn := dF c_l_law_refusal b_l_law_refusal

-- slots: graph=0
def b_l_law_shown : Df := ⟨1, [true],
  (.cons (.ret (.lst (.cons (.rd (.fld (.var 0) 0)) (.cons (.rd (.fld (.var 0) 1)) .nil))))
  .nil)⟩
def c_l_law_shown : Cfg := ⟨fun i => match i with  | _ => fun _ => .stuck, gl, sub, 100000⟩
@[simp] theorem c_l_law_shown_sub : c_l_law_shown.sub = sub := rfl
def m_l_law_shown : Fn := dF c_l_law_shown b_l_law_shown

-- slots: script=0, deck=1, turn=2, vertices=3, edges=4, passed=5, graph=6, edge=7, told=8, due=9, first=10, second=11, many=12, rest=13, one=14
def st_law_1 : S := (.iff (.or (.cmp .ne (.pl (.var 8)) (.pl (.var 9))) (.cmp .ne (.tm (.call 19 (.cons (.tm (.int 0)) (.cons (.pl (.var 6)) (.cons (.tm (.int 2)) (.cons (.tm (.lst (.cons (.tup (.cons (.neg (.tm (.int 1))) (.cons (.int 0) .nil))) .nil))) .nil)))))) (.tm (.tup (.cons (.str "graph") (.cons (.str "edges") .nil))))))
  (.cons (.ret (.bl false))
  .nil)
  .nil)
def st_law_2 : S := (.asg (.var 9) (.lst (.cons (.tup (.cons (.str "graph") (.cons (.str "vertices") .nil))) (.cons (.tup (.cons (.str "graph") (.cons (.str "edges") .nil))) (.cons (.tup (.cons (.str "graph") (.cons (.str "vertex") .nil))) (.cons (.tup (.cons (.str "graph") (.cons (.str "edge") .nil))) (.cons (.tup (.cons (.str "set") (.cons (.str "edges") .nil))) .nil)))))))
def st_law_3 : S := (.ex (.bm .append (.var 8) (.cons (.call 19 (.cons (.tm (.int 5)) (.cons (.pl (.var 6)) (.cons (.tm (.int 0)) (.cons (.tm (.lst (.cons (.blt .len (.cons (.pl (.var 4)) .nil)) .nil))) .nil))))) .nil)))
def st_law_4 : S := (.asg (.var 8) (.bin .add (.pl (.var 8)) (.tm (.lst (.cons (.call 19 (.cons (.tm (.int 1)) (.cons (.pl (.var 6)) (.cons (.pl (.var 3)) (.cons (.tm (.int 0)) .nil))))) (.cons (.call 19 (.cons (.tm (.bin .add (.tm (.int 2)) (.tm (.call 1 (.cons (.pl (.var 1)) (.cons (.tm (.int 3)) .nil)))))) (.cons (.pl (.var 6)) (.cons (.tm (.blt .len (.cons (.pl (.var 4)) .nil))) (.cons (.tm (.int 0)) .nil))))) .nil))))))
def st_law_5 : S := (.asg (.var 8) (.lst (.cons (.call 19 (.cons (.tm (.int 0)) (.cons (.pl (.var 6)) (.cons (.tm (.neg (.tm (.int 1)))) (.cons (.tm (.lst (.cons (.tup (.cons (.int 0) (.cons (.int 0) .nil))) .nil))) .nil))))) (.cons (.call 19 (.cons (.tm (.int 0)) (.cons (.pl (.var 6)) (.cons (.pl (.var 3)) (.cons (.tm (.bin .add (.pl (.var 4)) (.tm (.lst (.cons (.tup (.cons (.int 0) (.cons (.rd (.var 3)) .nil))) .nil))))) .nil))))) .nil))))
def ex_law_1 : E := (.call 20 (.cons (.pl (.var 14)) .nil))
def lx_law_2 : Ss := (.cons (.asg (.tup (.cons (.var 10) (.cons (.var 11) .nil))) (.rd (.ix (.var 4) (.rd (.var 7)))))
  (.cons (.asg (.var 9) (.lst (.cons (.lst (.cons (.rd (.var 3)) (.cons (.blt .tuple (.cons (.tm (.bin .add (.tm (.slc (.pl (.var 4)) .nil (.cons (.rd (.var 7)) .nil) 0)) (.tm (.slc (.pl (.var 4)) (.cons (.bin .add (.pl (.var 7)) (.tm (.int 1))) .nil) .nil 0)))) .nil)) .nil))) .nil)))
  (.cons (.asg (.tup (.cons (.var 12) (.cons (.var 13) .nil))) (.call 14 (.cons (.pl (.var 3)) (.cons (.pl (.var 4)) (.cons (.pl (.var 7)) .nil)))))
  (.cons (.ex (.bm .append (.var 9) (.cons (.lst (.cons (.rd (.var 12)) (.cons (.blt .tuple (.cons (.pl (.var 13)) .nil)) .nil))) .nil)))
  (.cons (.ex (.bm .append (.var 9) (.cons (.lst (.cons (.rd (.var 3)) (.cons (.blt .tuple (.cons (.tm (.bin .add (.tm (.bin .add (.tm (.slc (.pl (.var 4)) .nil (.cons (.rd (.var 7)) .nil) 0)) (.tm (.lst (.cons (.tup (.cons (.rd (.var 11)) (.cons (.rd (.var 10)) .nil))) .nil))))) (.tm (.slc (.pl (.var 4)) (.cons (.bin .add (.pl (.var 7)) (.tm (.int 1))) .nil) .nil 0)))) .nil)) .nil))) .nil)))
  (.cons (.asg (.var 8) (.lst (.cons (.meth 16 0 (.pl (.var 6)) (.cons (.pl (.var 7)) .nil)) (.cons (.meth 17 0 (.pl (.var 6)) (.cons (.pl (.var 7)) .nil)) (.cons (.meth 18 0 (.pl (.var 6)) (.cons (.pl (.var 7)) .nil)) .nil)))))
  (.cons (.iff (.cmp .ne (.tm (.call 4 (.cons (.tm (.lc (.lock 8) (.var 14) [14] .nil ex_law_1)) .nil))) (.tm (.call 4 (.cons (.pl (.var 9)) .nil))))
  (.cons (.ret (.bl false))
  .nil)
  .nil)
  .nil)))))))
def st_law_6 : S := (.for_ (.rng1 (.tm (.blt .len (.cons (.pl (.var 4)) .nil)))) (.var 7)
  lx_law_2)
def st_law_7 : S := (.iff (.not (.tr (.tm (.call 13 (.cons (.pl (.var 1)) (.cons (.pl (.var 6)) (.cons (.pl (.var 3)) (.cons (.pl (.var 4)) .nil))))))))
  (.cons (.ret (.bl false))
  .nil)
  .nil)
def st_law_8 : S := (.iff (.cmp .ne (.tm (.call 4 (.cons (.tm (.call 20 (.cons (.pl (.var 6)) .nil))) .nil))) (.tm (.call 4 (.cons (.tm (.lst (.cons (.rd (.var 3)) (.cons (.blt .tuple (.cons (.pl (.var 4)) .nil)) .nil)))) .nil))))
  (.cons (.ret (.bl false))
  .nil)
  .nil)
def st_law_9 : S := (.ex (.bm .append (.var 5) (.cons (.tup (.cons (.int 0) (.cons (.int 0) .nil))) .nil)))
def st_law_10 : S := (.asg (.var 6) (.make 2 0 true (.cons (.pl (.var 3)) (.cons (.pl (.var 5)) .nil))))
def st_law_11 : S := (.asg (.var 5) (.blt .list (.cons (.pl (.var 4)) .nil)))
def st_law_12 : S := (.iff (.cmp .gt (.pl (.var 3)) (.tm (.int 0)))
  (.cons (.asg (.var 4) (.call 3 (.cons (.pl (.var 1)) (.cons (.pl (.var 3)) (.cons (.tm (.int 9)) .nil)))))
  .nil)
  .nil)
def st_law_13 : S := (.asg (.var 4) (.lst .nil))
def st_law_14 : S := (.asg (.var 3) (.call 1 (.cons (.pl (.var 1)) (.cons (.tm (.int 7)) .nil))))
def lx_law_3 : Ss := (.cons st_law_14
  (.cons st_law_13
  (.cons st_law_12
  (.cons st_law_11
  (.cons st_law_10
  (.cons st_law_9
  (.cons st_law_8
  (.cons st_law_7
  (.cons st_law_6
  (.cons st_law_5
  (.cons st_law_4
  (.cons st_law_3
  (.cons st_law_2
  (.cons st_law_1
  .nil))))))))))))))
def b_law : Df := ⟨15, [true],
  (.cons (.asg (.var 1) (.call 0 (.cons (.pl (.var 0)) (.cons (.tm (.int 40)) (.cons (.tm (.int 14)) .nil)))))
  (.cons (.for_ (.rng1 (.tm (.int 2))) (.var 2)
  lx_law_3)
  (.cons (.ret (.bl true))
  .nil)))⟩
def c_law : Cfg := ⟨fun i => match i with | 0 => m_l_law_deck | 1 => m_l_law_take | 2 => m_Graph___init__ | 3 => m_l_law_edges | 4 => m_l_law_plain | 13 => m_l_law_graph_right | 14 => m_l_law_contracted | 19 => m_l_law_refusal | 20 => m_l_law_shown | 16 => m_Graph_deleted | 17 => m_Graph_contracted | 18 => m_Graph_reversed_edge | _ => fun _ => .stuck, gl, sub, 100000⟩
@[simp] theorem c_law_0 : c_law.fn 0 = m_l_law_deck := rfl
@[simp] theorem c_law_1 : c_law.fn 1 = m_l_law_take := rfl
@[simp] theorem c_law_2 : c_law.fn 2 = m_Graph___init__ := rfl
@[simp] theorem c_law_3 : c_law.fn 3 = m_l_law_edges := rfl
@[simp] theorem c_law_4 : c_law.fn 4 = m_l_law_plain := rfl
@[simp] theorem c_law_13 : c_law.fn 13 = m_l_law_graph_right := rfl
@[simp] theorem c_law_14 : c_law.fn 14 = m_l_law_contracted := rfl
@[simp] theorem c_law_19 : c_law.fn 19 = m_l_law_refusal := rfl
@[simp] theorem c_law_20 : c_law.fn 20 = m_l_law_shown := rfl
@[simp] theorem c_law_16 : c_law.fn 16 = m_Graph_deleted := rfl
@[simp] theorem c_law_17 : c_law.fn 17 = m_Graph_contracted := rfl
@[simp] theorem c_law_18 : c_law.fn 18 = m_Graph_reversed_edge := rfl
@[simp] theorem c_law_sub : c_law.sub = sub := rfl
def m_law : Fn := dF c_law b_law

end k66
namespace k66a
open PySem PySem.Spec PyProof.Rows L2 He Mp k66
def top (i : Nat) : Stmt := PySem.Challenge.pw_treework_k66_graphs_made.main.body.getD i (.Pass ⟨0, 0, 0, 0⟩)
def flds : List Str := ["vertices", "edges"]
def exns : List (Nat × Str) := [(0, "TreeError"), (1, "InvalidGraph"), (2, "InvalidSet")]
def exrs : List (Nat × Str) := [(1, "InvalidGraph"), (2, "InvalidSet")]
def nm : Nm := ⟨["_law_deck", "_law_take", "_law_edges", "_law_plain", "_law_names", "_law_rank", "merged", "groups", "_law_graph_right", "_law_contracted", "_law_refusal", "_law_shown", "law", "Graph", "TreeError", "InvalidGraph", "InvalidSet"], ["Graph"], flds, ["TreeError", "InvalidGraph", "InvalidSet"], "what", sub⟩
theorem hnd : nm.fls.Nodup := by decide +kernel
def dOf (st : Stmt) (n q : Str) (at_ : Str × Option Str) : DefD := ⟨at_, n, q, defArgs st, defBody st, defScope st, [], []⟩
def d_l_law_deck : DefD := dOf (top 9) "_law_deck" "_law_deck" ("_law_deck", none)
def d_l_law_take : DefD := dOf (top 10) "_law_take" "_law_take" ("_law_take", none)
def d_Graph___init__ : DefD := dOf (inClass (top 7) 0) "__init__" "Graph.__init__" ("Graph", some "__init__")
def d_l_law_edges : DefD := dOf (top 12) "_law_edges" "_law_edges" ("_law_edges", none)
def d_l_law_plain : DefD := dOf (top 11) "_law_plain" "_law_plain" ("_law_plain", none)
def d_l_law_names : DefD := dOf (top 13) "_law_names" "_law_names" ("_law_names", none)
def d_l_law_rank : DefD := dOf (top 14) "_law_rank" "_law_rank" ("_law_rank", none)
def d_merged : DefD := dOf (top 5) "merged" "merged" ("merged", none)
def d_groups : DefD := dOf (top 6) "groups" "groups" ("groups", none)
def d_Graph_components : DefD := dOf (inClass (top 7) 3) "components" "Graph.components" ("Graph", some "components")
def d_Graph_is_connected : DefD := dOf (inClass (top 7) 4) "is_connected" "Graph.is_connected" ("Graph", some "is_connected")
def d_Graph_degree : DefD := dOf (inClass (top 7) 2) "degree" "Graph.degree" ("Graph", some "degree")
def d_Graph_rank_of : DefD := dOf (inClass (top 7) 5) "rank_of" "Graph.rank_of" ("Graph", some "rank_of")
def d_l_law_graph_right : DefD := dOf (top 18) "_law_graph_right" "_law_graph_right" ("_law_graph_right", none)
def d_l_law_contracted : DefD := dOf (top 15) "_law_contracted" "_law_contracted" ("_law_contracted", none)
def d_Graph_check_edge : DefD := dOf (inClass (top 7) 1) "check_edge" "Graph.check_edge" ("Graph", some "check_edge")
def d_Graph_deleted : DefD := dOf (inClass (top 7) 6) "deleted" "Graph.deleted" ("Graph", some "deleted")
def d_Graph_contracted : DefD := dOf (inClass (top 7) 7) "contracted" "Graph.contracted" ("Graph", some "contracted")
def d_Graph_reversed_edge : DefD := dOf (inClass (top 7) 8) "reversed_edge" "Graph.reversed_edge" ("Graph", some "reversed_edge")
def d_l_law_refusal : DefD := dOf (top 16) "_law_refusal" "_law_refusal" ("_law_refusal", none)
def d_l_law_shown : DefD := dOf (top 17) "_law_shown" "_law_shown" ("_law_shown", none)
def d_law : DefD := dOf (top 19) "law" "law" ("law", none)
def d_InvalidGraph___init__ : DefD := dOf (inClass (top 2) 0) "__init__" "InvalidGraph.__init__" ("InvalidGraph", some "__init__")
def d_InvalidSet___init__ : DefD := dOf (inClass (top 3) 0) "__init__" "InvalidSet.__init__" ("InvalidSet", some "__init__")
def fn : List DefD := [d_l_law_deck, d_l_law_take, d_Graph___init__, d_l_law_edges, d_l_law_plain, d_l_law_names, d_l_law_rank, d_merged, d_groups, d_Graph_components, d_Graph_is_connected, d_Graph_degree, d_Graph_rank_of, d_l_law_graph_right, d_l_law_contracted, d_Graph_check_edge, d_Graph_deleted, d_Graph_contracted, d_Graph_reversed_edge, d_l_law_refusal, d_l_law_shown, d_law, d_InvalidGraph___init__, d_InvalidSet___init__]
def fa : List Fa := [.mkr "Graph", .meth "Graph" "components", .meth "Graph" "is_connected", .meth "Graph" "degree", .meth "Graph" "rank_of", .meth "Graph" "check_edge", .meth "Graph" "deleted", .meth "Graph" "contracted", .meth "Graph" "reversed_edge"]
def ex (K : PySem.W.Frag) : Bool := (moB nm K && (excB "what" "TreeError" K "InvalidGraph" && (excB "what" "TreeError" K "InvalidSet" && baseB K "TreeError")))
structure Z (K : PySem.W.Frag) (mg : Str → Option Value) : Prop where
  M : Mo nm K mg
  c : SaysD fa fn K
  eInvalidGraph : ExcF K "what" (ga K "InvalidGraph") (ma K (ga K "InvalidGraph") "__init__")
  eInvalidSet : ExcF K "what" (ga K "InvalidSet") (ma K (ga K "InvalidSet") "__init__")
  b : PySem.W.specialIn K (.ref (ga K "TreeError")) "__getattribute__" = some (some (.builtin "type.__getattribute__")) ∧ PySem.W.readsIn K (ga K "TreeError") (.type "type") = true ∧ PySem.W.findCls K (.ref (ga K "TreeError")) (.type "type") "__init__" = some (.val (.builtin "ValueError.__init__"))
theorem z_of {K : PySem.W.Frag} {mg : Str → Option Value} {h : Heap} (X : K.In h) (G : h.Ns mainGlobals mg) (c : SaysD fa fn K) (q : ex K = true) : Z K mg := by
  obtain ⟨h0, q⟩ := ba q
  obtain ⟨h1, q⟩ := ba q
  obtain ⟨h2, q⟩ := ba q
  exact ⟨mo_of X G h0, c, excB_ok h1, excB_ok h2, baseB_ok q⟩
section
variable {P : Program} {w : World} {K : PySem.W.Frag} {mg : Str → Option Value} {base : Heap}
abbrev At (P : Program) (w : World) (K : PySem.W.Frag) (mg : Str → Option Value) (base : Heap) (l : Nat) (f : Fn) (a : Addr) : Prop := FnAt P w K mg base (tabOf nm K hnd) l f a
theorem ok_InvalidGraph (z : Z K mg) : ∃ fd, FnOk P w K mg base (L2.CX P w) 1 (ma K (ga K "InvalidGraph") "__init__") fd ["self", "what"] (spX (tabOf nm K hnd) 1) ∧ Binds K fd ["self", "what"] [] := by
  obtain ⟨fd, F⟩ := z.c.def_ 22 (d := d_InvalidGraph___init__) rfl
  have hb : Binds K fd ["self", "what"] [] := (F.bindsN fun _ _ _ _ _ _ us hl => match us, hl with | [_, _], _ => rfl)
  obtain ⟨oc, od, dV, kV, doc, pm, an, cdv, ct, osl, rfl, lk, hcd, _, _⟩ := F.ex
  exact ⟨_, Mp.exc_ok (lvl := 0) (c := 1) (bs := "TreeError") (T := tabOf nm K hnd) lk hcd ⟨rfl, rfl, rfl, by decide +kernel, rfl, by decide +kernel, by decide +kernel⟩ (by decide +kernel) (by decide +kernel) (by decide +kernel) (by decide +kernel) (z.M.glo _ (by decide +kernel)) z.b.1 z.b.2.1 z.b.2.2 z.eInvalidGraph.ox z.eInvalidGraph.no rfl (by decide +kernel) (by decide +kernel), hb⟩
theorem ok_InvalidSet (z : Z K mg) : ∃ fd, FnOk P w K mg base (L2.CX P w) 1 (ma K (ga K "InvalidSet") "__init__") fd ["self", "what"] (spX (tabOf nm K hnd) 2) ∧ Binds K fd ["self", "what"] [] := by
  obtain ⟨fd, F⟩ := z.c.def_ 23 (d := d_InvalidSet___init__) rfl
  have hb : Binds K fd ["self", "what"] [] := (F.bindsN fun _ _ _ _ _ _ us hl => match us, hl with | [_, _], _ => rfl)
  obtain ⟨oc, od, dV, kV, doc, pm, an, cdv, ct, osl, rfl, lk, hcd, _, _⟩ := F.ex
  exact ⟨_, Mp.exc_ok (lvl := 0) (c := 2) (bs := "TreeError") (T := tabOf nm K hnd) lk hcd ⟨rfl, rfl, rfl, by decide +kernel, rfl, by decide +kernel, by decide +kernel⟩ (by decide +kernel) (by decide +kernel) (by decide +kernel) (by decide +kernel) (z.M.glo _ (by decide +kernel)) z.b.1 z.b.2.1 z.b.2.2 z.eInvalidSet.ox z.eInvalidSet.no rfl (by decide +kernel) (by decide +kernel), hb⟩
theorem xns_ok : ∀ c x, exns.lookup c = some x → nm.exs[c]? = some x ∧ nm.gls.contains x = true := lk_cons ⟨rfl, by decide +kernel⟩ (lk_cons ⟨rfl, by decide +kernel⟩ (lk_cons ⟨rfl, by decide +kernel⟩ (lk_nil)))
theorem rss_ok (z : Z K mg) {lvl : Nat} (hl : 2 ≤ lvl) : ∀ c x, exrs.lookup c = some x → (∃ j fI fd ps, j + 1 ≤ lvl ∧ ExcF K nm.xfn (ga K x) fI ∧ FnOk P w K mg base (L2.CX P w) j fI fd ps (spX (tabOf nm K hnd) c) ∧ Binds K fd ps []) ∧ nm.exs[c]? = some x ∧ nm.gls.contains x = true := by
  obtain ⟨fdInvalidGraph, FInvalidGraph, bInvalidGraph⟩ := ok_InvalidGraph (P := P) (w := w) (base := base) z
  obtain ⟨fdInvalidSet, FInvalidSet, bInvalidSet⟩ := ok_InvalidSet (P := P) (w := w) (base := base) z
  exact lk_cons ⟨⟨1, _, _, _, hl, z.eInvalidGraph, FInvalidGraph, bInvalidGraph⟩, rfl, by decide +kernel⟩ (lk_cons ⟨⟨1, _, _, _, hl, z.eInvalidSet, FInvalidSet, bInvalidSet⟩, rfl, by decide +kernel⟩ (lk_nil))
def k_l_law_deck : Ck := ⟨["script", "cells", "each", "deck", "seed", "k", "cell", "rest", "at"], defScope (top 9), fun _ => true, [], [], [], [], fun i => flds.getD i "", 2, true⟩
def q_l_law_deck : Cx2 := ⟨"what", exns, exrs⟩
theorem kp_l_law_deck (z : Z K mg) : PySem.W.keepIn K (.ref (ga K "_law_deck")) = true := by
  obtain ⟨fd, F⟩ := z.c.def_ 0 (d := d_l_law_deck) rfl
  exact F.kp
theorem ok_l_law_deck (z : Z K mg) : At P w K mg base 3 m_l_law_deck (ga K "_law_deck") := by
  obtain ⟨fd, F⟩ := z.c.def_ 0 (d := d_l_law_deck) rfl
  exact def_ok (k := k_l_law_deck) (q := q_l_law_deck) (df := b_l_law_deck) (C := c_l_law_deck) (lvl := 2) (ps := ["script", "cells", "each"]) F (z.M.wd (by decide +kernel) rfl rfl rfl (fun _ => List.cons_ne_nil _ _) (fun _ => List.cons_ne_nil _ _) rfl rfl (lk_nil) (lk_nil) (lk_nil) xns_ok (rss_ok z (by omega))) ⟨rfl, rfl, rfl, by decide +kernel, rfl, by decide +kernel, by decide +kernel⟩ rfl rfl rfl (by decide +kernel) (F.bindsN fun _ _ _ _ _ _ us hl => match us, hl with | [_, _, _], _ => rfl)
def k_l_law_take : Ck := ⟨["deck", "many"], defScope (top 10), fun _ => true, [], [], [], [], fun i => flds.getD i "", 2, true⟩
def q_l_law_take : Cx2 := ⟨"what", exns, exrs⟩
theorem kp_l_law_take (z : Z K mg) : PySem.W.keepIn K (.ref (ga K "_law_take")) = true := by
  obtain ⟨fd, F⟩ := z.c.def_ 1 (d := d_l_law_take) rfl
  exact F.kp
theorem ok_l_law_take (z : Z K mg) : At P w K mg base 3 m_l_law_take (ga K "_law_take") := by
  obtain ⟨fd, F⟩ := z.c.def_ 1 (d := d_l_law_take) rfl
  exact def_ok (k := k_l_law_take) (q := q_l_law_take) (df := b_l_law_take) (C := c_l_law_take) (lvl := 2) (ps := ["deck", "many"]) F (z.M.wd (by decide +kernel) rfl rfl rfl (fun _ => List.cons_ne_nil _ _) (fun _ => List.cons_ne_nil _ _) rfl rfl (lk_nil) (lk_nil) (lk_nil) xns_ok (rss_ok z (by omega))) ⟨rfl, rfl, rfl, by decide +kernel, rfl, by decide +kernel, by decide +kernel⟩ rfl rfl rfl (by decide +kernel) (F.bindsN fun _ _ _ _ _ _ us hl => match us, hl with | [_, _], _ => rfl)
def k_Graph___init__ : Ck := ⟨["self", "vertices", "edges", "first", "second"], defScope (inClass (top 7) 0), fun _ => true, [], [], [], [], fun i => flds.getD i "", 2, true⟩
def q_Graph___init__ : Cx2 := ⟨"what", exns, exrs⟩
theorem ok_Graph___init__ (z : Z K mg) : At P w K mg base 3 m_Graph___init__ (ma K (ga K "Graph") "__init__") := by
  obtain ⟨fd, F⟩ := z.c.def_ 2 (d := d_Graph___init__) rfl
  exact def_ok (k := k_Graph___init__) (q := q_Graph___init__) (df := b_Graph___init__) (C := c_Graph___init__) (lvl := 2) (ps := ["self", "vertices", "edges"]) F (z.M.wd (by decide +kernel) rfl rfl rfl (fun _ => List.cons_ne_nil _ _) (fun _ => List.cons_ne_nil _ _) rfl rfl (lk_nil) (lk_nil) (lk_nil) xns_ok (rss_ok z (by omega))) ⟨rfl, rfl, rfl, by decide +kernel, rfl, by decide +kernel, by decide +kernel⟩ rfl rfl rfl (by decide +kernel) (F.bindsN fun _ _ _ _ _ _ us hl => match us, hl with | [_, _, _], _ => rfl)
def k_l_law_edges : Ck := ⟨["deck", "vertices", "most", "turn"], defScope (top 12), fun _ => true, [(1, "_law_take")], [], [], [], fun i => flds.getD i "", 2, true⟩
def q_l_law_edges : Cx2 := ⟨"what", exns, exrs⟩
theorem kp_l_law_edges (z : Z K mg) : PySem.W.keepIn K (.ref (ga K "_law_edges")) = true := by
  obtain ⟨fd, F⟩ := z.c.def_ 3 (d := d_l_law_edges) rfl
  exact F.kp
theorem ok_l_law_edges (z : Z K mg) : At P w K mg base 4 m_l_law_edges (ga K "_law_edges") := by
  obtain ⟨fd, F⟩ := z.c.def_ 3 (d := d_l_law_edges) rfl
  exact def_ok (k := k_l_law_edges) (q := q_l_law_edges) (df := b_l_law_edges) (C := c_l_law_edges) (lvl := 3) (ps := ["deck", "vertices", "most"]) F (z.M.wd (by decide +kernel) rfl rfl rfl (fun _ => List.cons_ne_nil _ _) (fun _ => List.cons_ne_nil _ _) rfl rfl (lk_cons ⟨((ok_l_law_take z).mono (by omega)), by decide +kernel, kp_l_law_take z⟩ (lk_nil)) (lk_nil) (lk_nil) xns_ok (rss_ok z (by omega))) ⟨rfl, rfl, rfl, by decide +kernel, rfl, by decide +kernel, by decide +kernel⟩ rfl rfl rfl (by decide +kernel) (F.bindsN fun _ _ _ _ _ _ us hl => match us, hl with | [_, _, _], _ => rfl)
def k_l_law_plain : Ck := ⟨["value", "item"], defScope (top 11), fun _ => true, [(4, "_law_plain")], [], [], [], fun i => flds.getD i "", 2, true⟩
def q_l_law_plain : Cx2 := ⟨"what", exns, exrs⟩
theorem kp_l_law_plain (z : Z K mg) : PySem.W.keepIn K (.ref (ga K "_law_plain")) = true := by
  obtain ⟨fd, F⟩ := z.c.def_ 4 (d := d_l_law_plain) rfl
  exact F.kp
theorem okr_l_law_plain (z : Z K mg) : ∀ m, At P w K mg base (m + 2) (r_l_law_plain m) (ga K "_law_plain")
  | 0 => by
    obtain ⟨fd, F⟩ := z.c.def_ 4 (d := d_l_law_plain) rfl
    exact def_none (N := ["value", "item"]) (ps := ["value"]) F ⟨rfl, rfl, rfl, by decide +kernel, rfl, by decide +kernel, by decide +kernel⟩ (F.bindsN fun _ _ _ _ _ _ us hl => match us, hl with | [_], _ => rfl) (by omega)
  | m + 1 => by
    have ih : At P w K mg base (m + 2) (r_l_law_plain m) (ga K "_law_plain") := okr_l_law_plain z m
    obtain ⟨fd, F⟩ := z.c.def_ 4 (d := d_l_law_plain) rfl
    exact FnAt.mono (def_ok (k := k_l_law_plain) (q := q_l_law_plain) (df := b_l_law_plain) (C := c_l_law_plain (r_l_law_plain m)) (lvl := m + 2) (ps := ["value"]) F (z.M.wd (by decide +kernel) rfl rfl rfl (fun _ => List.cons_ne_nil _ _) (fun _ => List.cons_ne_nil _ _) rfl rfl (lk_cons ⟨(ih.mono (by omega)), by decide +kernel, kp_l_law_plain z⟩ (lk_nil)) (lk_nil) (lk_nil) xns_ok (rss_ok z (by omega))) ⟨rfl, rfl, rfl, by decide +kernel, rfl, by decide +kernel, by decide +kernel⟩ rfl rfl rfl (by decide +kernel) (F.bindsN fun _ _ _ _ _ _ us hl => match us, hl with | [_], _ => rfl)) (by omega)
theorem ok_l_law_plain (z : Z K mg) : At P w K mg base 62 m_l_law_plain (ga K "_law_plain") := (okr_l_law_plain z 60).mono (by omega)
def k_l_law_names : Ck := ⟨["vertices", "edges", "names", "first", "second", "least", "greatest", "name"], defScope (top 13), fun _ => true, [], [], [], [], fun i => flds.getD i "", 2, true⟩
def q_l_law_names : Cx2 := ⟨"what", exns, exrs⟩
theorem kp_l_law_names (z : Z K mg) : PySem.W.keepIn K (.ref (ga K "_law_names")) = true := by
  obtain ⟨fd, F⟩ := z.c.def_ 5 (d := d_l_law_names) rfl
  exact F.kp
theorem ok_l_law_names (z : Z K mg) : At P w K mg base 3 m_l_law_names (ga K "_law_names") := by
  obtain ⟨fd, F⟩ := z.c.def_ 5 (d := d_l_law_names) rfl
  exact def_ok (k := k_l_law_names) (q := q_l_law_names) (df := b_l_law_names) (C := c_l_law_names) (lvl := 2) (ps := ["vertices", "edges"]) F (z.M.wd (by decide +kernel) rfl rfl rfl (fun _ => List.cons_ne_nil _ _) (fun _ => List.cons_ne_nil _ _) rfl rfl (lk_nil) (lk_nil) (lk_nil) xns_ok (rss_ok z (by omega))) ⟨rfl, rfl, rfl, by decide +kernel, rfl, by decide +kernel, by decide +kernel⟩ rfl rfl rfl (by decide +kernel) (F.bindsN fun _ _ _ _ _ _ us hl => match us, hl with | [_, _], _ => rfl)
def k_l_law_rank : Ck := ⟨["vertices", "edges"], defScope (top 14), fun _ => true, [(5, "_law_names")], [], [], [], fun i => flds.getD i "", 2, true⟩
def q_l_law_rank : Cx2 := ⟨"what", exns, exrs⟩
theorem kp_l_law_rank (z : Z K mg) : PySem.W.keepIn K (.ref (ga K "_law_rank")) = true := by
  obtain ⟨fd, F⟩ := z.c.def_ 6 (d := d_l_law_rank) rfl
  exact F.kp
theorem ok_l_law_rank (z : Z K mg) : At P w K mg base 4 m_l_law_rank (ga K "_law_rank") := by
  obtain ⟨fd, F⟩ := z.c.def_ 6 (d := d_l_law_rank) rfl
  exact def_ok (k := k_l_law_rank) (q := q_l_law_rank) (df := b_l_law_rank) (C := c_l_law_rank) (lvl := 3) (ps := ["vertices", "edges"]) F (z.M.wd (by decide +kernel) rfl rfl rfl (fun _ => List.cons_ne_nil _ _) (fun _ => List.cons_ne_nil _ _) rfl rfl (lk_cons ⟨((ok_l_law_names z).mono (by omega)), by decide +kernel, kp_l_law_names z⟩ (lk_nil)) (lk_nil) (lk_nil) xns_ok (rss_ok z (by omega))) ⟨rfl, rfl, rfl, by decide +kernel, rfl, by decide +kernel, by decide +kernel⟩ rfl rfl rfl (by decide +kernel) (F.bindsN fun _ _ _ _ _ _ us hl => match us, hl with | [_, _], _ => rfl)
def k_merged : Ck := ⟨["names", "first", "second", "least", "greatest", "vertex"], defScope (top 5), fun _ => true, [], [], [], [], fun i => flds.getD i "", 2, true⟩
def q_merged : Cx2 := ⟨"what", exns, exrs⟩
theorem kp_merged (z : Z K mg) : PySem.W.keepIn K (.ref (ga K "merged")) = true := by
  obtain ⟨fd, F⟩ := z.c.def_ 7 (d := d_merged) rfl
  exact F.kp
theorem ok_merged (z : Z K mg) : At P w K mg base 3 m_merged (ga K "merged") := by
  obtain ⟨fd, F⟩ := z.c.def_ 7 (d := d_merged) rfl
  exact def_ok (k := k_merged) (q := q_merged) (df := b_merged) (C := c_merged) (lvl := 2) (ps := ["names", "first", "second"]) F (z.M.wd (by decide +kernel) rfl rfl rfl (fun _ => List.cons_ne_nil _ _) (fun _ => List.cons_ne_nil _ _) rfl rfl (lk_nil) (lk_nil) (lk_nil) xns_ok (rss_ok z (by omega))) ⟨rfl, rfl, rfl, by decide +kernel, rfl, by decide +kernel, by decide +kernel⟩ rfl rfl rfl (by decide +kernel) (F.bindsN fun _ _ _ _ _ _ us hl => match us, hl with | [_, _, _], _ => rfl)
def k_groups : Ck := ⟨["vertices", "edges", "names", "first", "second"], defScope (top 6), fun _ => true, [(7, "merged")], [], [], [], fun i => flds.getD i "", 2, true⟩
def q_groups : Cx2 := ⟨"what", exns, exrs⟩
theorem kp_groups (z : Z K mg) : PySem.W.keepIn K (.ref (ga K "groups")) = true := by
  obtain ⟨fd, F⟩ := z.c.def_ 8 (d := d_groups) rfl
  exact F.kp
theorem ok_groups (z : Z K mg) : At P w K mg base 4 m_groups (ga K "groups") := by
  obtain ⟨fd, F⟩ := z.c.def_ 8 (d := d_groups) rfl
  exact def_ok (k := k_groups) (q := q_groups) (df := b_groups) (C := c_groups) (lvl := 3) (ps := ["vertices", "edges"]) F (z.M.wd (by decide +kernel) rfl rfl rfl (fun _ => List.cons_ne_nil _ _) (fun _ => List.cons_ne_nil _ _) rfl rfl (lk_cons ⟨((ok_merged z).mono (by omega)), by decide +kernel, kp_merged z⟩ (lk_nil)) (lk_nil) (lk_nil) xns_ok (rss_ok z (by omega))) ⟨rfl, rfl, rfl, by decide +kernel, rfl, by decide +kernel, by decide +kernel⟩ rfl rfl rfl (by decide +kernel) (F.bindsN fun _ _ _ _ _ _ us hl => match us, hl with | [_, _], _ => rfl)
def k_Graph_components : Ck := ⟨["self", "names", "found", "vertex", "name"], defScope (inClass (top 7) 3), fun _ => true, [(8, "groups")], [], [], [], fun i => flds.getD i "", 2, true⟩
def q_Graph_components : Cx2 := ⟨"what", exns, exrs⟩
theorem ok_Graph_components (z : Z K mg) : At P w K mg base 5 m_Graph_components (ma K (ga K "Graph") "components") := by
  obtain ⟨fd, F⟩ := z.c.def_ 9 (d := d_Graph_components) rfl
  exact def_ok (k := k_Graph_components) (q := q_Graph_components) (df := b_Graph_components) (C := c_Graph_components) (lvl := 4) (ps := ["self"]) F (z.M.wd (by decide +kernel) rfl rfl rfl (fun _ => List.cons_ne_nil _ _) (fun _ => List.cons_ne_nil _ _) rfl rfl (lk_cons ⟨((ok_groups z).mono (by omega)), by decide +kernel, kp_groups z⟩ (lk_nil)) (lk_nil) (lk_nil) xns_ok (rss_ok z (by omega))) ⟨rfl, rfl, rfl, by decide +kernel, rfl, by decide +kernel, by decide +kernel⟩ rfl rfl rfl (by decide +kernel) (F.bindsN fun _ _ _ _ _ _ us hl => match us, hl with | [_], _ => rfl)
def k_Graph_is_connected : Ck := ⟨["self"], defScope (inClass (top 7) 4), fun _ => true, [], [(9, 0, "components")], [], [], fun i => flds.getD i "", 2, true⟩
def q_Graph_is_connected : Cx2 := ⟨"what", exns, exrs⟩
theorem ok_Graph_is_connected (z : Z K mg) : At P w K mg base 6 m_Graph_is_connected (ma K (ga K "Graph") "is_connected") := by
  obtain ⟨fd, F⟩ := z.c.def_ 10 (d := d_Graph_is_connected) rfl
  exact def_ok (k := k_Graph_is_connected) (q := q_Graph_is_connected) (df := b_Graph_is_connected) (C := c_Graph_is_connected) (lvl := 5) (ps := ["self"]) F (z.M.wd (by decide +kernel) rfl rfl rfl (fun _ => List.cons_ne_nil _ _) (fun _ => List.cons_ne_nil _ _) rfl rfl (lk_nil) (lk_cons ⟨_, ((ok_Graph_components z).mono (by omega)), He.meth_ok (z.c.fact 1 rfl), by decide +kernel⟩ (lk_nil)) (lk_nil) xns_ok (rss_ok z (by omega))) ⟨rfl, rfl, rfl, by decide +kernel, rfl, by decide +kernel, by decide +kernel⟩ rfl rfl rfl (by decide +kernel) (F.bindsN fun _ _ _ _ _ _ us hl => match us, hl with | [_], _ => rfl)
def k_Graph_degree : Ck := ⟨["self", "vertex", "first", "second"], defScope (inClass (top 7) 2), fun _ => true, [], [], [], [], fun i => flds.getD i "", 2, true⟩
def q_Graph_degree : Cx2 := ⟨"what", exns, exrs⟩
theorem ok_Graph_degree (z : Z K mg) : At P w K mg base 3 m_Graph_degree (ma K (ga K "Graph") "degree") := by
  obtain ⟨fd, F⟩ := z.c.def_ 11 (d := d_Graph_degree) rfl
  exact def_ok (k := k_Graph_degree) (q := q_Graph_degree) (df := b_Graph_degree) (C := c_Graph_degree) (lvl := 2) (ps := ["self", "vertex"]) F (z.M.wd (by decide +kernel) rfl rfl rfl (fun _ => List.cons_ne_nil _ _) (fun _ => List.cons_ne_nil _ _) rfl rfl (lk_nil) (lk_nil) (lk_nil) xns_ok (rss_ok z (by omega))) ⟨rfl, rfl, rfl, by decide +kernel, rfl, by decide +kernel, by decide +kernel⟩ rfl rfl rfl (by decide +kernel) (F.bindsN fun _ _ _ _ _ _ us hl => match us, hl with | [_, _], _ => rfl)
def k_Graph_rank_of : Ck := ⟨["self", "edges", "edge", "names", "vertex"], defScope (inClass (top 7) 5), fun _ => true, [(8, "groups")], [], [], [], fun i => flds.getD i "", 2, true⟩
def q_Graph_rank_of : Cx2 := ⟨"what", exns, exrs⟩
theorem ok_Graph_rank_of (z : Z K mg) : At P w K mg base 5 m_Graph_rank_of (ma K (ga K "Graph") "rank_of") := by
  obtain ⟨fd, F⟩ := z.c.def_ 12 (d := d_Graph_rank_of) rfl
  exact def_ok (k := k_Graph_rank_of) (q := q_Graph_rank_of) (df := b_Graph_rank_of) (C := c_Graph_rank_of) (lvl := 4) (ps := ["self", "edges"]) F (z.M.wd (by decide +kernel) rfl rfl rfl (fun _ => List.cons_ne_nil _ _) (fun _ => List.cons_ne_nil _ _) rfl rfl (lk_cons ⟨((ok_groups z).mono (by omega)), by decide +kernel, kp_groups z⟩ (lk_nil)) (lk_nil) (lk_nil) xns_ok (rss_ok z (by omega))) ⟨rfl, rfl, rfl, by decide +kernel, rfl, by decide +kernel, by decide +kernel⟩ rfl rfl rfl (by decide +kernel) (F.bindsN fun _ _ _ _ _ _ us hl => match us, hl with | [_, _], _ => rfl)
def k_l_law_graph_right : Ck := ⟨["deck", "graph", "vertices", "edges", "names", "parts", "name", "told", "vertex", "some", "due", "edge", "first", "second"], defScope (top 18), fun _ => true, [(5, "_law_names"), (6, "_law_rank"), (4, "_law_plain"), (1, "_law_take")], [(9, 0, "components"), (10, 0, "is_connected"), (11, 0, "degree"), (12, 0, "rank_of")], [], [], fun i => flds.getD i "", 2, true⟩
def q_l_law_graph_right : Cx2 := ⟨"what", exns, exrs⟩
theorem kp_l_law_graph_right (z : Z K mg) : PySem.W.keepIn K (.ref (ga K "_law_graph_right")) = true := by
  obtain ⟨fd, F⟩ := z.c.def_ 13 (d := d_l_law_graph_right) rfl
  exact F.kp
theorem ok_l_law_graph_right (z : Z K mg) : At P w K mg base 63 m_l_law_graph_right (ga K "_law_graph_right") := by
  obtain ⟨fd, F⟩ := z.c.def_ 13 (d := d_l_law_graph_right) rfl
  exact def_ok (k := k_l_law_graph_right) (q := q_l_law_graph_right) (df := b_l_law_graph_right) (C := c_l_law_graph_right) (lvl := 62) (ps := ["deck", "graph", "vertices", "edges"]) F (z.M.wd (by decide +kernel) rfl rfl rfl (fun _ => List.cons_ne_nil _ _) (fun _ => List.cons_ne_nil _ _) rfl rfl (lk_cons ⟨((ok_l_law_names z).mono (by omega)), by decide +kernel, kp_l_law_names z⟩ (lk_cons ⟨((ok_l_law_rank z).mono (by omega)), by decide +kernel, kp_l_law_rank z⟩ (lk_cons ⟨((ok_l_law_plain z).mono (by omega)), by decide +kernel, kp_l_law_plain z⟩ (lk_cons ⟨((ok_l_law_take z).mono (by omega)), by decide +kernel, kp_l_law_take z⟩ (lk_nil))))) (lk_cons ⟨_, ((ok_Graph_components z).mono (by omega)), He.meth_ok (z.c.fact 1 rfl), by decide +kernel⟩ (lk_cons ⟨_, ((ok_Graph_is_connected z).mono (by omega)), He.meth_ok (z.c.fact 2 rfl), by decide +kernel⟩ (lk_cons ⟨_, ((ok_Graph_degree z).mono (by omega)), He.meth_ok (z.c.fact 3 rfl), by decide +kernel⟩ (lk_cons ⟨_, ((ok_Graph_rank_of z).mono (by omega)), He.meth_ok (z.c.fact 4 rfl), by decide +kernel⟩ (lk_nil))))) (lk_nil) xns_ok (rss_ok z (by omega))) ⟨rfl, rfl, rfl, by decide +kernel, rfl, by decide +kernel, by decide +kernel⟩ rfl rfl rfl (by decide +kernel) (F.bindsN fun _ _ _ _ _ _ us hl => match us, hl with | [_, _, _, _], _ => rfl)
def k_l_law_contracted : Ck := ⟨["vertices", "edges", "edge", "low", "high", "rest", "found", "first", "second", "pair", "vertex"], defScope (top 15), fun _ => true, [], [], [], [], fun i => flds.getD i "", 2, true⟩
def q_l_law_contracted : Cx2 := ⟨"what", exns, exrs⟩
theorem kp_l_law_contracted (z : Z K mg) : PySem.W.keepIn K (.ref (ga K "_law_contracted")) = true := by
  obtain ⟨fd, F⟩ := z.c.def_ 14 (d := d_l_law_contracted) rfl
  exact F.kp
theorem ok_l_law_contracted (z : Z K mg) : At P w K mg base 3 m_l_law_contracted (ga K "_law_contracted") := by
  obtain ⟨fd, F⟩ := z.c.def_ 14 (d := d_l_law_contracted) rfl
  exact def_ok (k := k_l_law_contracted) (q := q_l_law_contracted) (df := b_l_law_contracted) (C := c_l_law_contracted) (lvl := 2) (ps := ["vertices", "edges", "edge"]) F (z.M.wd (by decide +kernel) rfl rfl rfl (fun _ => List.cons_ne_nil _ _) (fun _ => List.cons_ne_nil _ _) rfl rfl (lk_nil) (lk_nil) (lk_nil) xns_ok (rss_ok z (by omega))) ⟨rfl, rfl, rfl, by decide +kernel, rfl, by decide +kernel, by decide +kernel⟩ rfl rfl rfl (by decide +kernel) (F.bindsN fun _ _ _ _ _ _ us hl => match us, hl with | [_, _, _], _ => rfl)
def k_Graph_check_edge : Ck := ⟨["self", "edge"], defScope (inClass (top 7) 1), fun _ => true, [], [], [], [], fun i => flds.getD i "", 2, true⟩
def q_Graph_check_edge : Cx2 := ⟨"what", exns, exrs⟩
theorem ok_Graph_check_edge (z : Z K mg) : At P w K mg base 3 m_Graph_check_edge (ma K (ga K "Graph") "check_edge") := by
  obtain ⟨fd, F⟩ := z.c.def_ 15 (d := d_Graph_check_edge) rfl
  exact def_ok (k := k_Graph_check_edge) (q := q_Graph_check_edge) (df := b_Graph_check_edge) (C := c_Graph_check_edge) (lvl := 2) (ps := ["self", "edge"]) F (z.M.wd (by decide +kernel) rfl rfl rfl (fun _ => List.cons_ne_nil _ _) (fun _ => List.cons_ne_nil _ _) rfl rfl (lk_nil) (lk_nil) (lk_nil) xns_ok (rss_ok z (by omega))) ⟨rfl, rfl, rfl, by decide +kernel, rfl, by decide +kernel, by decide +kernel⟩ rfl rfl rfl (by decide +kernel) (F.bindsN fun _ _ _ _ _ _ us hl => match us, hl with | [_, _], _ => rfl)
def k_Graph_deleted : Ck := ⟨["self", "edge"], defScope (inClass (top 7) 6), fun _ => true, [], [(15, 0, "check_edge")], [(2, 0, "Graph")], [], fun i => flds.getD i "", 2, true⟩
def q_Graph_deleted : Cx2 := ⟨"what", exns, exrs⟩
theorem ok_Graph_deleted (z : Z K mg) : At P w K mg base 5 m_Graph_deleted (ma K (ga K "Graph") "deleted") := by
  obtain ⟨fd, F⟩ := z.c.def_ 16 (d := d_Graph_deleted) rfl
  exact def_ok (k := k_Graph_deleted) (q := q_Graph_deleted) (df := b_Graph_deleted) (C := c_Graph_deleted) (lvl := 4) (ps := ["self", "edge"]) F (z.M.wd (by decide +kernel) rfl rfl rfl (fun _ => List.cons_ne_nil _ _) (fun _ => List.cons_ne_nil _ _) rfl rfl (lk_nil) (lk_cons ⟨_, ((ok_Graph_check_edge z).mono (by omega)), He.meth_ok (z.c.fact 5 rfl), by decide +kernel⟩ (lk_nil)) (lk_cons ⟨_, _, rfl, ((ok_Graph___init__ z).mono (by omega)), by decide +kernel, rfl, He.mkr_ok (z.c.fact 0 rfl)⟩ (lk_nil)) xns_ok (rss_ok z (by omega))) ⟨rfl, rfl, rfl, by decide +kernel, rfl, by decide +kernel, by decide +kernel⟩ rfl rfl rfl (by decide +kernel) (F.bindsN fun _ _ _ _ _ _ us hl => match us, hl with | [_, _], _ => rfl)
def k_Graph_contracted : Ck := ⟨["self", "edge", "low", "high", "rest", "names", "first", "second"], defScope (inClass (top 7) 7), fun _ => true, [], [(15, 0, "check_edge")], [(2, 0, "Graph")], [], fun i => flds.getD i "", 2, true⟩
def q_Graph_contracted : Cx2 := ⟨"what", exns, exrs⟩
theorem ok_Graph_contracted (z : Z K mg) : At P w K mg base 5 m_Graph_contracted (ma K (ga K "Graph") "contracted") := by
  obtain ⟨fd, F⟩ := z.c.def_ 17 (d := d_Graph_contracted) rfl
  exact def_ok (k := k_Graph_contracted) (q := q_Graph_contracted) (df := b_Graph_contracted) (C := c_Graph_contracted) (lvl := 4) (ps := ["self", "edge"]) F (z.M.wd (by decide +kernel) rfl rfl rfl (fun _ => List.cons_ne_nil _ _) (fun _ => List.cons_ne_nil _ _) rfl rfl (lk_nil) (lk_cons ⟨_, ((ok_Graph_check_edge z).mono (by omega)), He.meth_ok (z.c.fact 5 rfl), by decide +kernel⟩ (lk_nil)) (lk_cons ⟨_, _, rfl, ((ok_Graph___init__ z).mono (by omega)), by decide +kernel, rfl, He.mkr_ok (z.c.fact 0 rfl)⟩ (lk_nil)) xns_ok (rss_ok z (by omega))) ⟨rfl, rfl, rfl, by decide +kernel, rfl, by decide +kernel, by decide +kernel⟩ rfl rfl rfl (by decide +kernel) (F.bindsN fun _ _ _ _ _ _ us hl => match us, hl with | [_, _], _ => rfl)
def k_Graph_reversed_edge : Ck := ⟨["self", "edge", "first", "second"], defScope (inClass (top 7) 8), fun _ => true, [], [(15, 0, "check_edge")], [(2, 0, "Graph")], [], fun i => flds.getD i "", 2, true⟩
def q_Graph_reversed_edge : Cx2 := ⟨"what", exns, exrs⟩
theorem ok_Graph_reversed_edge (z : Z K mg) : At P w K mg base 5 m_Graph_reversed_edge (ma K (ga K "Graph") "reversed_edge") := by
  obtain ⟨fd, F⟩ := z.c.def_ 18 (d := d_Graph_reversed_edge) rfl
  exact def_ok (k := k_Graph_reversed_edge) (q := q_Graph_reversed_edge) (df := b_Graph_reversed_edge) (C := c_Graph_reversed_edge) (lvl := 4) (ps := ["self", "edge"]) F (z.M.wd (by decide +kernel) rfl rfl rfl (fun _ => List.cons_ne_nil _ _) (fun _ => List.cons_ne_nil _ _) rfl rfl (lk_nil) (lk_cons ⟨_, ((ok_Graph_check_edge z).mono (by omega)), He.meth_ok (z.c.fact 5 rfl), by decide +kernel⟩ (lk_nil)) (lk_cons ⟨_, _, rfl, ((ok_Graph___init__ z).mono (by omega)), by decide +kernel, rfl, He.mkr_ok (z.c.fact 0 rfl)⟩ (lk_nil)) xns_ok (rss_ok z (by omega))) ⟨rfl, rfl, rfl, by decide +kernel, rfl, by decide +kernel, by decide +kernel⟩ rfl rfl rfl (by decide +kernel) (F.bindsN fun _ _ _ _ _ _ us hl => match us, hl with | [_, _], _ => rfl)
def k_l_law_refusal : Ck := ⟨["ask", "graph", "one", "two", "error"], defScope (top 16), fun _ => true, [], [(11, 0, "degree"), (16, 0, "deleted"), (17, 0, "contracted"), (18, 0, "reversed_edge"), (12, 0, "rank_of")], [(2, 0, "Graph")], [], fun i => flds.getD i "", 2, true⟩
def q_l_law_refusal : Cx2 := ⟨"what", exns, exrs⟩
theorem kp_l_law_refusal (z : Z K mg) : PySem.W.keepIn K (.ref (ga K "_law_refusal")) = true := by
  obtain ⟨fd, F⟩ := z.c.def_ 19 (d := d_l_law_refusal) rfl
  exact F.kp
theorem ok_l_law_refusal (z : Z K mg) : At P w K mg base 6 m_l_law_refusal (ga K "_law_refusal") := by
  obtain ⟨fd, F⟩ := z.c.def_ 19 (d := d_l_law_refusal) rfl
  exact def_ok (k := k_l_law_refusal) (q := q_l_law_refusal) (df := b_l_law_refusal) (C := c_l_law_refusal) (lvl := 5) (ps := ["ask", "graph", "one", "two"]) F (z.M.wd (by decide +kernel) rfl rfl rfl (fun _ => List.cons_ne_nil _ _) (fun _ => List.cons_ne_nil _ _) rfl rfl (lk_nil) (lk_cons ⟨_, ((ok_Graph_degree z).mono (by omega)), He.meth_ok (z.c.fact 3 rfl), by decide +kernel⟩ (lk_cons ⟨_, ((ok_Graph_deleted z).mono (by omega)), He.meth_ok (z.c.fact 6 rfl), by decide +kernel⟩ (lk_cons ⟨_, ((ok_Graph_contracted z).mono (by omega)), He.meth_ok (z.c.fact 7 rfl), by decide +kernel⟩ (lk_cons ⟨_, ((ok_Graph_reversed_edge z).mono (by omega)), He.meth_ok (z.c.fact 8 rfl), by decide +kernel⟩ (lk_cons ⟨_, ((ok_Graph_rank_of z).mono (by omega)), He.meth_ok (z.c.fact 4 rfl), by decide +kernel⟩ (lk_nil)))))) (lk_cons ⟨_, _, rfl, ((ok_Graph___init__ z).mono (by omega)), by decide +kernel, rfl, He.mkr_ok (z.c.fact 0 rfl)⟩ (lk_nil)) xns_ok (rss_ok z (by omega))) ⟨rfl, rfl, rfl, by decide +kernel, rfl, by decide +kernel, by decide +kernel⟩ rfl rfl rfl (by decide +kernel) (F.bindsN fun _ _ _ _ _ _ us hl => match us, hl with | [_, _, _, _], _ => rfl)
def k_l_law_shown : Ck := ⟨["graph"], defScope (top 17), fun _ => true, [], [], [], [], fun i => flds.getD i "", 2, true⟩
def q_l_law_shown : Cx2 := ⟨"what", exns, exrs⟩
theorem kp_l_law_shown (z : Z K mg) : PySem.W.keepIn K (.ref (ga K "_law_shown")) = true := by
  obtain ⟨fd, F⟩ := z.c.def_ 20 (d := d_l_law_shown) rfl
  exact F.kp
theorem ok_l_law_shown (z : Z K mg) : At P w K mg base 3 m_l_law_shown (ga K "_law_shown") := by
  obtain ⟨fd, F⟩ := z.c.def_ 20 (d := d_l_law_shown) rfl
  exact def_ok (k := k_l_law_shown) (q := q_l_law_shown) (df := b_l_law_shown) (C := c_l_law_shown) (lvl := 2) (ps := ["graph"]) F (z.M.wd (by decide +kernel) rfl rfl rfl (fun _ => List.cons_ne_nil _ _) (fun _ => List.cons_ne_nil _ _) rfl rfl (lk_nil) (lk_nil) (lk_nil) xns_ok (rss_ok z (by omega))) ⟨rfl, rfl, rfl, by decide +kernel, rfl, by decide +kernel, by decide +kernel⟩ rfl rfl rfl (by decide +kernel) (F.bindsN fun _ _ _ _ _ _ us hl => match us, hl with | [_], _ => rfl)
def k_law : Ck := ⟨["script", "deck", "turn", "vertices", "edges", "passed", "graph", "edge", "told", "due", "first", "second", "many", "rest", "one"], defScope (top 19), fun _ => true, [(0, "_law_deck"), (1, "_law_take"), (3, "_law_edges"), (4, "_law_plain"), (13, "_law_graph_right"), (14, "_law_contracted"), (19, "_law_refusal"), (20, "_law_shown")], [(16, 0, "deleted"), (17, 0, "contracted"), (18, 0, "reversed_edge")], [(2, 0, "Graph")], [], fun i => flds.getD i "", 2, true⟩
def q_law : Cx2 := ⟨"what", exns, exrs⟩
theorem kp_law (z : Z K mg) : PySem.W.keepIn K (.ref (ga K "law")) = true := by
  obtain ⟨fd, F⟩ := z.c.def_ 21 (d := d_law) rfl
  exact F.kp
theorem law_fn (z : Z K mg) {fd : FuncData} (F : FunD K d_law.name d_law.qual d_law.params d_law.body d_law.scope [] [] (ga K "law") fd) : FnOk P w K mg base (L2.CX P w) 64 (ga K "law") fd ["script"] (spOf (tabOf nm K hnd) m_law) :=
  def_fn (k := k_law) (q := q_law) (df := b_law) (C := c_law) (lvl := 63) (ps := ["script"]) F (z.M.wd (by decide +kernel) rfl rfl rfl (fun _ => List.cons_ne_nil _ _) (fun _ => List.cons_ne_nil _ _) rfl rfl (lk_cons ⟨((ok_l_law_deck z).mono (by omega)), by decide +kernel, kp_l_law_deck z⟩ (lk_cons ⟨((ok_l_law_take z).mono (by omega)), by decide +kernel, kp_l_law_take z⟩ (lk_cons ⟨((ok_l_law_edges z).mono (by omega)), by decide +kernel, kp_l_law_edges z⟩ (lk_cons ⟨((ok_l_law_plain z).mono (by omega)), by decide +kernel, kp_l_law_plain z⟩ (lk_cons ⟨((ok_l_law_graph_right z).mono (by omega)), by decide +kernel, kp_l_law_graph_right z⟩ (lk_cons ⟨((ok_l_law_contracted z).mono (by omega)), by decide +kernel, kp_l_law_contracted z⟩ (lk_cons ⟨((ok_l_law_refusal z).mono (by omega)), by decide +kernel, kp_l_law_refusal z⟩ (lk_cons ⟨((ok_l_law_shown z).mono (by omega)), by decide +kernel, kp_l_law_shown z⟩ (lk_nil))))))))) (lk_cons ⟨_, ((ok_Graph_deleted z).mono (by omega)), He.meth_ok (z.c.fact 6 rfl), by decide +kernel⟩ (lk_cons ⟨_, ((ok_Graph_contracted z).mono (by omega)), He.meth_ok (z.c.fact 7 rfl), by decide +kernel⟩ (lk_cons ⟨_, ((ok_Graph_reversed_edge z).mono (by omega)), He.meth_ok (z.c.fact 8 rfl), by decide +kernel⟩ (lk_nil)))) (lk_cons ⟨_, _, rfl, ((ok_Graph___init__ z).mono (by omega)), by decide +kernel, rfl, He.mkr_ok (z.c.fact 0 rfl)⟩ (lk_nil)) xns_ok (rss_ok z (by omega))) ⟨rfl, rfl, rfl, by decide +kernel, rfl, by decide +kernel, by decide +kernel⟩ rfl rfl rfl (by decide +kernel)
end
abbrev R : PySem.W.OpenRow := PySem.W.OpenLaw.row PySem.Challenge.rw_treework_k66_graphs_made
abbrev hk : PySem.W.Hook := hookM 4 fa fn ex
def ob (s : PySem.W.SharedT) : AlM := obsM 4 fa fn ex (HandSHeadRun.getT s)
theorem ob_eq (s : PySem.W.SharedT) : ob s = hk.obs s.abs := obsM_eq (HandSHeadRun.getT_eq s)
def names : List Str := ["__name__", "TreeError", "InvalidGraph", "InvalidSet", "merged", "groups", "Graph", "_law_deck", "_law_take", "_law_plain", "_law_edges", "_law_names", "_law_rank", "_law_contracted", "_law_refusal", "_law_shown", "_law_graph_right"]
end k66a
namespace k66a
open PySem PySem.Spec PyProof.Rows L2 He Mp k66
theorem run (w : World) : HandSHeadRun.RunEq R (PySem.W.view R.prog [19]) hk ob 4000 names w := by
  intro os
  kernel_rfl
def lvl : Nat := 64
end k66a
/-! Tools for the plain law. -/
namespace Mq
open Mp
@[scoped simp ↓] theorem seq_def (r : SR) (f : Env → SR) : r.seq f = match r with
  | .nx ρ => f ρ
  | .ret d ρ => .ret d ρ
  | .bk ρ => .bk ρ
  | .ct ρ => .ct ρ
  | .exc c d ρ => .exc c d ρ
  | .stuck => .stuck := by cases r <;> (rfl)
@[scoped simp ↓] theorem then_def {α : Type} (r : R α) (f : α → SR) : r.then f = match r with
  | .ok a => f a
  | .exc c d ρ => .exc c d ρ
  | .stuck => .stuck := by cases r <;> (rfl)
@[scoped simp ↓] theorem bind_def {α β : Type} (r : R α) (f : α → R β) : r.bind f = match r with
  | .ok a => f a
  | .exc c d ρ => .exc c d ρ
  | .stuck => .stuck := by cases r <;> (rfl)
@[scoped simp] theorem seq_nx {ρ : Env} {f : Env → SR} : (SR.nx ρ).seq f = f ρ := (rfl)
@[scoped simp] theorem seq_ret {d : D} {ρ : Env} {f : Env → SR} : (SR.ret d ρ).seq f = .ret d ρ := (rfl)
@[scoped simp] theorem seq_exc {c : Nat} {d : D} {ρ : Env} {f : Env → SR} : (SR.exc c d ρ).seq f = .exc c d ρ := (rfl)
@[scoped simp] theorem then_ok {α : Type} {a : α} {f : α → SR} : (R.ok a).then f = f a := (rfl)
@[scoped simp] theorem then_exc {α : Type} {c : Nat} {d : D} {ρ : Env} {f : α → SR} : (R.exc c d ρ).then f = .exc c d ρ := (rfl)
@[scoped simp] theorem bind_ok {α β : Type} {a : α} {f : α → R β} : (R.ok a).bind f = f a := (rfl)
@[scoped simp] theorem bind_exc {α β : Type} {c : Nat} {d : D} {ρ : Env} {f : α → R β} : (R.exc c d ρ).bind f = .exc c d ρ := (rfl)
/-- a loop that goes through, by an invariant over the turns -/
theorem loop_inv {turn : D → Env → SR} (I : Nat → Env → Prop) : ∀ {xs : List D} {ρ : Env} (i : Nat), I i ρ → (∀ j x ρ, xs[j]? = some x → I (i + j) ρ → ∃ ρ', turn x ρ = .nx ρ' ∧ I (i + j + 1) ρ') → ∃ ρ', loopF turn xs ρ = .nx ρ' ∧ I (i + xs.length) ρ'
  | [], ρ, i, h, _ => ⟨ρ, rfl, h⟩
  | x :: xs, ρ, i, h, k => by
    obtain ⟨ρ1, e1, h1⟩ := k 0 x ρ rfl h
    obtain ⟨ρ2, e2, h2⟩ := loop_inv I (xs := xs) (i + 1) h1 fun j y r hy hI => by
      have e : i + 1 + j = i + (j + 1) := by omega
      rw [e] at hI ⊢
      exact k (j + 1) y r hy hI
    refine ⟨ρ2, ?_, ?_⟩
    · unfold loopF
      rw [e1]
      exact e2
    · have e : i + (x :: xs).length = i + 1 + xs.length := by simp; omega
      rw [e]
      exact h2
/-- a comprehension whose turns leave the slots alone -/
theorem comp_map {turn : D → Env → R (List D × Option Env)} {g : D → List D} {ρ : Env} : ∀ {xs : List D}, (∀ x ∈ xs, turn x ρ = .ok (g x, none)) → compL turn xs ρ none = .ok (xs.flatMap g, none)
  | [], _ => rfl
  | x :: xs, k => by
    unfold compL
    rw [show now ρ none = ρ from rfl, k x (by simp)]
    simp only [R.calm, R.bind, orE]
    rw [comp_map fun y hy => k y (by simp [hy])]
    rfl
end Mq
/-! The denotation's equations, for simp. -/
namespace Mq
open Mp
@[scoped simp] theorem dP_var (C : Cfg) (i) (ρ : Env) : dP C (.var i) ρ = match slot ρ i with
    | .gone => .stuck
    | _ => .ok (.pl i [], none) := (rfl)
@[scoped simp] theorem dP_fld (C : Cfg) (p) (f) (ρ : Env) : dP C (.fld p f) ρ = (dP C p ρ).bind fun (a, o) => match a.rd (now ρ o) with
    | none => .stuck
    | some d => match d with
      | .ins _ _ fs vs => match fldN f fs with
        | none => .stuck
        | some n => match vs[n]? with
          | none => .stuck
          | some c => match sh c with
            | true => .ok (.tm c, o)
            | false => match a, kids d with
              | .pl i π, some _ => .ok (.pl i (π ++ [n]), o)
              | _, _ => .stuck
      | _ => .stuck := (rfl)
@[scoped simp] theorem dP_ix (C : Cfg) (p) (e) (ρ : Env) : dP C (.ix p e) ρ = (dP C p ρ).bind fun (a, o) => (dE C e (now ρ o)).bind fun (k, o2) => match a.firm || o2.isNone with
    | false => .stuck
    | true => match a.rd (now (now ρ o) o2) with
      | none => .stuck
      | some d => match itemN d k with
        | none => .stuck
        | some n => match (kidsAny d)[n]? with
          | none => .stuck
          | some c => match sh c with
            | true => .ok (.tm c, orE o2 o)
            | false => match a, kids d with
              | .pl i π, some _ => .ok (.pl i (π ++ [n]), orE o2 o)
              | _, _ => .stuck := (rfl)
@[scoped simp] theorem dO_pl (C : Cfg) (p) (ρ : Env) : dO C (.pl p) ρ = dP C p ρ := (rfl)
@[scoped simp] theorem dO_tm (C : Cfg) (e) (ρ : Env) : dO C (.tm e) ρ = (dE C e ρ).bind fun (d, o) => .ok (.tm d, o) := (rfl)
@[scoped simp] theorem dOs_nil (C : Cfg)  (u0 : Env) : dOs C .nil u0 = .ok ([], none) := (rfl)
@[scoped simp] theorem dOs_cons (C : Cfg) (a) (as) (ρ : Env) : dOs C (.cons a as) ρ = (dO C a ρ).bind fun (x, o) => (dOs C as (now ρ o)).bind fun (xs, o2) => match x.firm || o2.isNone with
    | false => .stuck
    | true => .ok (x :: xs, orE o2 o) := (rfl)
@[scoped simp] theorem dEs_nil (C : Cfg)  (u0 : Env) : dEs C .nil u0 = .ok ([], none) := (rfl)
@[scoped simp] theorem dEs_cons (C : Cfg) (e) (es) (ρ : Env) : dEs C (.cons e es) ρ = (dE C e ρ).bind fun (x, o) => (dEs C es (now ρ o)).bind fun (xs, o2) => .ok (x :: xs, orE o2 o) := (rfl)
@[scoped simp] theorem dT_tr (C : Cfg) (a) (ρ : Env) : dT C (.tr a) ρ = (dO C a ρ).bind fun (x, o) => match x.rd (now ρ o) with
    | none => .stuck
    | some d => match truth d with
      | some b => .ok (b, o)
      | none => .stuck := (rfl)
@[scoped simp] theorem dT_cmp (C : Cfg) (op) (a) (b) (ρ : Env) : dT C (.cmp op a b) ρ = (dO C a ρ).bind fun (x, o1) => (dO C b (now ρ o1)).bind fun (y, o2) => (op2 (cmpD op) x y o1 o2 ρ).bind fun (d, o) => match d with
    | .bl b => .ok (b, o)
    | _ => .stuck := (rfl)
@[scoped simp] theorem dT_chain (C : Cfg) (op) (op') (a) (b) (c) (ρ : Env) : dT C (.chain op op' a b c) ρ = (dO C a ρ).bind fun (x, o1) => (dO C b (now ρ o1)).bind fun (y, o2) => (midD y (now (now ρ o1) o2)).bind fun y' => (op2 (cmpD op) x y o1 o2 ρ).bind fun (d, o) => match d with
    | .bl false => .ok (false, o)
    | .bl true => (dO C c (now ρ o)).bind fun (z, o3) => (op2 (cmpD op') (.tm y') z o o3 ρ).bind fun (d', o') => match d' with
      | .bl b => .ok (b, o')
      | _ => .stuck
    | _ => .stuck := (rfl)
@[scoped simp] theorem dT_and (C : Cfg) (a) (b) (ρ : Env) : dT C (.and a b) ρ = (dT C a ρ).bind fun (x, o) => match x with
    | false => .ok (false, o)
    | true => (dT C b (now ρ o)).bind fun (y, o2) => .ok (y, orE o2 o) := (rfl)
@[scoped simp] theorem dT_or (C : Cfg) (a) (b) (ρ : Env) : dT C (.or a b) ρ = (dT C a ρ).bind fun (x, o) => match x with
    | true => .ok (true, o)
    | false => (dT C b (now ρ o)).bind fun (y, o2) => .ok (y, orE o2 o) := (rfl)
@[scoped simp] theorem dT_not (C : Cfg) (a) (ρ : Env) : dT C (.not a) ρ = (dT C a ρ).bind fun (x, o) => .ok (!x, o) := (rfl)
@[scoped simp] theorem dE_non (C : Cfg)  (u0 : Env) : dE C .non u0 = .ok (.non, none) := (rfl)
@[scoped simp] theorem dE_bl (C : Cfg) (b) (u0 : Env) : dE C (.bl b) u0 = .ok (.bl b, none) := (rfl)
@[scoped simp] theorem dE_int (C : Cfg) (i) (u0 : Env) : dE C (.int i) u0 = .ok (.int i, none) := (rfl)
@[scoped simp] theorem dE_str (C : Cfg) (s) (u0 : Env) : dE C (.str s) u0 = .ok (.str s, none) := (rfl)
@[scoped simp] theorem dE_glob (C : Cfg) (k) (u0 : Env) : dE C (.glob k) u0 = .ok (C.gl k, none) := (rfl)
@[scoped simp] theorem dE_rd (C : Cfg) (p) (ρ : Env) : dE C (.rd p) ρ = (dP C p ρ).bind fun (a, o) => match a with
    | .tm d => .ok (d, o)
    | .pl i π => (keep (now ρ o) i π).bind fun (d, o2) => .ok (d, orE o2 o) := (rfl)
@[scoped simp] theorem dE_mv (C : Cfg) (i) (ρ : Env) : dE C (.mv i) ρ = match slot ρ i with
    | .gone => .stuck
    | d => match sh d with
      | true => .ok (d, none)
      | false => .ok (d, some (ρ.set i .gone)) := (rfl)
@[scoped simp] theorem dE_bin (C : Cfg) (op) (a) (b) (ρ : Env) : dE C (.bin op a b) ρ = (dO C a ρ).bind fun (x, o1) => (dO C b (now ρ o1)).bind fun (y, o2) => op2 (binD op) x y o1 o2 ρ := (rfl)
@[scoped simp] theorem dE_neg (C : Cfg) (a) (ρ : Env) : dE C (.neg a) ρ = (dO C a ρ).bind fun (x, o) => op1 negD x o ρ := (rfl)
@[scoped simp] theorem dE_inv (C : Cfg) (a) (ρ : Env) : dE C (.inv a) ρ = (dO C a ρ).bind fun (x, o) => op1 invD x o ρ := (rfl)
@[scoped simp] theorem dE_cmp (C : Cfg) (op) (a) (b) (ρ : Env) : dE C (.cmp op a b) ρ = (dO C a ρ).bind fun (x, o1) => (dO C b (now ρ o1)).bind fun (y, o2) => op2 (cmpD op) x y o1 o2 ρ := (rfl)
@[scoped simp] theorem dE_chain (C : Cfg) (op) (op') (a) (b) (c) (ρ : Env) : dE C (.chain op op' a b c) ρ = (dO C a ρ).bind fun (x, o1) => (dO C b (now ρ o1)).bind fun (y, o2) => (midD y (now (now ρ o1) o2)).bind fun y' => (op2 (cmpD op) x y o1 o2 ρ).bind fun (d, o) => match d with
    | .bl false => .ok (.bl false, o)
    | .bl true => (dO C c (now ρ o)).bind fun (z, o3) => (op2 (cmpD op') (.tm y') z o o3 ρ).bind fun (d', o') => .ok (d', o')
    | _ => .stuck := (rfl)
@[scoped simp] theorem dE_andv (C : Cfg) (a) (b) (ρ : Env) : dE C (.andv a b) ρ = (dE C a ρ).bind fun (x, o) => match x with
    | .bl false => .ok (.bl false, o)
    | .bl true => (dE C b (now ρ o)).bind fun (y, o2) => .ok (y, orE o2 o)
    | _ => .stuck := (rfl)
@[scoped simp] theorem dE_orv (C : Cfg) (a) (b) (ρ : Env) : dE C (.orv a b) ρ = (dE C a ρ).bind fun (x, o) => match x with
    | .bl true => .ok (.bl true, o)
    | .bl false => (dE C b (now ρ o)).bind fun (y, o2) => .ok (y, orE o2 o)
    | _ => .stuck := (rfl)
@[scoped simp] theorem dE_notv (C : Cfg) (a) (ρ : Env) : dE C (.notv a) ρ = (dO C a ρ).bind fun (x, o) => op1 notD x o ρ := (rfl)
@[scoped simp] theorem dE_ife (C : Cfg) (t) (a) (b) (ρ : Env) : dE C (.ife t a b) ρ = (dT C t ρ).bind fun (x, o) => match x with
    | true => (dE C a (now ρ o)).bind fun (y, o2) => .ok (y, orE o2 o)
    | false => (dE C b (now ρ o)).bind fun (y, o2) => .ok (y, orE o2 o) := (rfl)
@[scoped simp] theorem dE_sub (C : Cfg) (a) (i) (ρ : Env) : dE C (.sub a i) ρ = (dO C a ρ).bind fun (x, o1) => (dO C i (now ρ o1)).bind fun (y, o2) => op2 itemD x y o1 o2 ρ := (rfl)
@[scoped simp] theorem dE_slc (C : Cfg) (a) (lo) (hi) (k) (ρ : Env) : dE C (.slc a lo hi k) ρ = (dO C a ρ).bind fun (x, o1) => (dEs C lo (now ρ o1)).bind fun (l, o2) => match optI l with
    | none => .stuck
    | some l => (dEs C hi (now (now ρ o1) o2)).bind fun (h, o3) => match optI h with
      | none => .stuck
      | some h => match x.firm || (o2.isNone && o3.isNone) with
        | false => .stuck
        | true => match x.rd (now (now (now ρ o1) o2) o3) with
          | none => .stuck
          | some d => ofO (cutD d l h) (orE o3 (orE o2 o1)) := (rfl)
@[scoped simp] theorem dE_rev (C : Cfg) (a) (ρ : Env) : dE C (.rev a) ρ = (dO C a ρ).bind fun (x, o) => op1 revD x o ρ := (rfl)
@[scoped simp] theorem dE_lst (C : Cfg) (es) (ρ : Env) : dE C (.lst es) ρ = (dEs C es ρ).bind fun (xs, o) => if xs.length ≤ line then .ok (.lst true xs, o) else .stuck := (rfl)
@[scoped simp] theorem dE_tup (C : Cfg) (es) (ρ : Env) : dE C (.tup es) ρ = (dEs C es ρ).bind fun (xs, o) => if xs.length ≤ line then .ok (.tup xs, o) else .stuck := (rfl)
@[scoped simp] theorem dE_dnew (C : Cfg) (k) (u0 : Env) : dE C (.dnew k) u0 = .ok (.dct true k [] [], none) := (rfl)
@[scoped simp] theorem dE_blt (C : Cfg) (b) (os) (ρ : Env) : dE C (.blt b os) ρ = (dOs C os ρ).bind fun (xs, o) => match rdL (now ρ o) xs with
    | none => .stuck
    | some ds => ofO (blD b ds) o := (rfl)
@[scoped simp] theorem dE_call (C : Cfg) (f) (os) (ρ : Env) : dE C (.call f os) ρ = (dOs C os ρ).bind fun (xs, o) => runF (C.fn f) xs (now ρ o) o := (rfl)
@[scoped simp] theorem dE_make (C : Cfg) (f) (c) (z) (os) (ρ : Env) : dE C (.make f c z os) ρ = (dOs C os ρ).bind fun (xs, o) => match takeL xs (now ρ o) with
    | none => .stuck
    | some (ds, bs, o1) => match C.fn f (.ins true c [] [] :: ds) with
      | .ok .non (x :: outs) => match z with
        | true => match fzable x with
          | true => .ok (fz x, given bs outs (now (now ρ o) o1) (orE o1 o))
          | false => .stuck
        | false => .ok (x, given bs outs (now (now ρ o) o1) (orE o1 o))
      | .ok _ _ => .stuck
      | .exc c d => .exc c d (now (now ρ o) o1)
      | .stuck => .stuck := (rfl)
@[scoped simp] theorem dE_meth (C : Cfg) (f) (c) (a) (os) (ρ : Env) : dE C (.meth f c a os) ρ = (dO C a ρ).bind fun (x, o) => match x.rd (now ρ o) with
    | some (.ins _ c' _ _) => match decide (c = c') with
      | true => (dOs C os (now ρ o)).bind fun (xs, o2) => match x.firm || o2.isNone with
        | false => .stuck
        | true => runF (C.fn f) (x :: xs) (now (now ρ o) o2) (orE o2 o)
      | false => .stuck
    | _ => .stuck := (rfl)
@[scoped simp] theorem dE_bm (C : Cfg) (m) (p) (es) (ρ : Env) : dE C (.bm m p es) ρ = (dP C p ρ).bind fun (a, o) => match a with
    | .tm _ => .stuck
    | .pl i π => match (getS (now ρ o) i π).bind bmTy with
      | none => .stuck
      | some t => match decide (t = bmFor m) with
        | false => .stuck
        | true => (dEs C es (now ρ o)).bind fun (xs, o2) => match a.firm || o2.isNone with
          | false => .stuck
          | true => match getS (now (now ρ o) o2) i π with
            | none => .stuck
            | some d => match bmD m d xs with
              | some (y, d') => .ok (y, some (setS (now (now ρ o) o2) i π d'))
              | none => .stuck := (rfl)
@[scoped simp] theorem dE_fldv (C : Cfg) (a) (f) (ρ : Env) : dE C (.fldv a f) ρ = (dO C a ρ).bind fun (x, o) => op1 (fldS f) x o ρ := (rfl)
@[scoped simp] theorem dE_rng (C : Cfg) (os) (ρ : Env) : dE C (.rng os) ρ = (dOs C os ρ).bind fun (xs, o) => match rdL (now ρ o) xs with
    | none => .stuck
    | some ds => match rngD ds with
      | none => .stuck
      | some r => if r.length ≤ line then .ok (.lst true r, o) else .stuck := (rfl)
@[scoped simp] theorem dCs_nil (C : Cfg)  (u0 : Env) : dCs C .nil u0 = .ok (true, none) := (rfl)
@[scoped simp] theorem dCs_one (C : Cfg) (t) (ρ : Env) : dCs C (.one t) ρ = dT C t ρ := (rfl)
@[scoped simp] theorem dI_seq (C : Cfg) (a) (ρ : Env) : dI C (.seq a) ρ = (dO C a ρ).bind fun (x, o) => (keepO ρ o x).bind fun (d, o) => match seqOf d with
    | some xs => match shL xs with
      | true => .ok (xs, o)
      | false => .stuck
    | none => .stuck := (rfl)
@[scoped simp] theorem dI_lock (C : Cfg) (i) (ρ : Env) : dI C (.lock i) ρ = match seqOf (slot ρ i) with
    | some xs => match shL xs with
      | true => .ok (xs, none)
      | false => match fzableL xs with
        | true => .ok (fzL xs, some (ρ.set i (fz (slot ρ i))))
        | false => .stuck
    | none => .stuck := (rfl)
@[scoped simp] theorem dI_rng1 (C : Cfg) (a) (ρ : Env) : dI C (.rng1 a) ρ = (dO C a ρ).bind fun (x, o) => match x.rd (now ρ o) with
    | some (.int j) => R.of ((rngD [.int j]).map fun r => (r, o))
    | _ => .stuck := (rfl)
@[scoped simp] theorem dI_rng2 (C : Cfg) (a) (b) (ρ : Env) : dI C (.rng2 a b) ρ = (dO C a ρ).bind fun (x, o1) => (dO C b (now ρ o1)).bind fun (y, o2) => match x.firm || o2.isNone with
    | false => .stuck
    | true => match x.rd (now (now ρ o1) o2), y.rd (now (now ρ o1) o2) with
      | some (.int i), some (.int j) => R.of ((rngD [.int i, .int j]).map fun r => (r, orE o2 o1))
      | _, _ => .stuck := (rfl)
@[scoped simp] theorem dI_rng3 (C : Cfg) (a) (b) (c) (ρ : Env) : dI C (.rng3 a b c) ρ = (dO C a ρ).bind fun (x, o1) => (dO C b (now ρ o1)).bind fun (y, o2) => (dO C c (now (now ρ o1) o2)).bind fun (z, o3) => match (x.firm && y.firm) || (o2.isNone && o3.isNone) with
    | false => .stuck
    | true => match x.rd (now (now (now ρ o1) o2) o3), y.rd (now (now (now ρ o1) o2) o3), z.rd (now (now (now ρ o1) o2) o3) with
      | some (.int i), some (.int j), some (.int k) => R.of ((rngD [.int i, .int j, .int k]).map fun r => (r, orE o3 (orE o2 o1)))
      | _, _, _ => .stuck := (rfl)
@[scoped simp] theorem dI_enum (C : Cfg) (a) (ρ : Env) : dI C (.enum a) ρ = (dO C a ρ).bind fun (x, o) => (keepO ρ o x).bind fun (d, o) => match seqOf d with
    | some xs => .ok (enumL 0 xs, o)
    | none => .stuck := (rfl)
@[scoped simp] theorem dI_zip (C : Cfg) (a) (b) (ρ : Env) : dI C (.zip a b) ρ = (dO C a ρ).bind fun (x, o) => (keepO ρ o x).bind fun (d, o) => (dO C b (now ρ o)).bind fun (y, o2) => (keepO (now ρ o) o2 y).bind fun (e, o2) => match seqOf d, seqOf e with
    | some xs, some ys => .ok (zipL xs ys, orE o2 o)
    | _, _ => .stuck := (rfl)
@[scoped simp] theorem dI_items (C : Cfg) (a) (ρ : Env) : dI C (.items a) ρ = (dO C a ρ).bind fun (x, o) => (keepO ρ o x).bind fun (d, o) => match d with
    | .dct _ _ ks vs => .ok (zipL ks vs, o)
    | _ => .stuck := (rfl)
@[scoped simp] theorem dI_keys (C : Cfg) (a) (ρ : Env) : dI C (.keys a) ρ = (dO C a ρ).bind fun (x, o) => (keepO ρ o x).bind fun (d, o) => match d with
    | .dct _ _ ks _ => .ok (ks, o)
    | _ => .stuck := (rfl)
@[scoped simp] theorem dI_vals (C : Cfg) (a) (ρ : Env) : dI C (.vals a) ρ = (dO C a ρ).bind fun (x, o) => (keepO ρ o x).bind fun (d, o) => match d with
    | .dct _ _ _ vs => .ok (vs, o)
    | _ => .stuck := (rfl)
@[scoped simp] theorem dI_revs (C : Cfg) (a) (ρ : Env) : dI C (.revs a) ρ = (dO C a ρ).bind fun (x, o) => (keepO ρ o x).bind fun (d, o) => match seqOf d with
    | some xs => .ok (xs.reverse, o)
    | none => .stuck := (rfl)
@[scoped simp] theorem dXs_ret (C : Cfg) (c : Nat) (d : D) (e) (ρ : Env) : dXs C c d (.ret e) ρ = match dXe C c d e with
    | some x => .ret x ρ
    | none => .stuck := (rfl)
@[scoped simp] theorem dXs_app (C : Cfg) (c : Nat) (d : D) (i) (e) (ρ : Env) : dXs C c d (.app i e) ρ = match dXe C c d e, slot ρ i with
    | some x, .lst true xs => if decide (xs.length < line) then .nx (ρ.set i (.lst true (xs ++ [x]))) else .stuck
    | _, _ => .stuck := (rfl)
@[scoped simp] theorem dXs_iff (C : Cfg) (c : Nat) (d : D) (t) (e) (r) (ρ : Env) : dXs C c d (.iff t e r) ρ = match dXt C c t with
    | true => match dXe C c d e with
      | some x => .ret x ρ
      | none => .stuck
    | false => dXs C c d r ρ := (rfl)
@[scoped simp] theorem dXs_pass (C : Cfg) (c : Nat) (d : D)  (ρ : Env) : dXs C c d .pass ρ = .nx ρ := (rfl)
@[scoped simp] theorem dS_asg (C : Cfg) (t) (e) (ρ : Env) : dS C (.asg t e) ρ = (dE C e ρ).then fun (d, o) => match bindT t d (now ρ o) with
    | some ρ' => .nx ρ'
    | none => .stuck := (rfl)
@[scoped simp] theorem dS_par (C : Cfg) (i) (j) (a) (b) (ρ : Env) : dS C (.par i j a b) ρ = (dE C a ρ).then fun (x, o) => (dE C b (now ρ o)).then fun (y, o2) => .nx (((now (now ρ o) o2).set i x).set j y) := (rfl)
@[scoped simp] theorem dS_sfld (C : Cfg) (p) (f) (e) (ρ : Env) : dS C (.sfld p f e) ρ = (dE C e ρ).then fun (x, o) => (dP C p (now ρ o)).then fun (a, o2) => match a with
    | .tm _ => .stuck
    | .pl i π => storeF (now (now ρ o) o2) i π f x := (rfl)
@[scoped simp] theorem dS_six (C : Cfg) (p) (k) (e) (ρ : Env) : dS C (.six p k e) ρ = (dE C e ρ).then fun (x, o) => (dP C p (now ρ o)).then fun (a, o2) => (dE C k (now (now ρ o) o2)).then fun (y, o3) => match a.firm || o3.isNone with
    | false => .stuck
    | true => match a with
      | .tm _ => .stuck
      | .pl i π => storeI (now (now (now ρ o) o2) o3) i π y x := (rfl)
@[scoped simp] theorem dS_aug (C : Cfg) (i) (op) (e) (ρ : Env) : dS C (.aug i op e) ρ = (dE C e ρ).then fun (y, o) => match slot (now ρ o) i, y with
    | .int a, .int b => match binI op a b with
      | some d => .nx ((now ρ o).set i d)
      | none => .stuck
    | _, _ => .stuck := (rfl)
@[scoped simp] theorem dS_augix (C : Cfg) (p) (k) (op) (e) (ρ : Env) : dS C (.augix p k op e) ρ = (dP C p ρ).then fun (a, o) => (dE C k (now ρ o)).then fun (y, o2) => match a with
    | .tm _ => .stuck
    | .pl i π => match a.firm || o2.isNone, (getS (now (now ρ o) o2) i π).bind fun d => itemD d y with
      | true, some (.int u) => (dE C e (now (now ρ o) o2)).then fun (z, o3) => match a.firm || o3.isNone, z with
        | true, .int v => match binI op u v with
          | some w => storeI (now (now (now ρ o) o2) o3) i π y w
          | none => .stuck
        | _, _ => .stuck
      | _, _ => .stuck := (rfl)
@[scoped simp] theorem dS_augfld (C : Cfg) (p) (f) (op) (e) (ρ : Env) : dS C (.augfld p f op e) ρ = (dP C p ρ).then fun (a, o) => match a with
    | .tm _ => .stuck
    | .pl i π => match (getS (now ρ o) i π).bind (fldD f) with
      | some (.int u) => (dE C e (now ρ o)).then fun (z, o3) => match a.firm || o3.isNone, z with
        | true, .int v => match binI op u v with
          | some w => storeF (now (now ρ o) o3) i π f w
          | none => .stuck
        | _, _ => .stuck
      | _ => .stuck := (rfl)
@[scoped simp] theorem dS_ex (C : Cfg) (e) (ρ : Env) : dS C (.ex e) ρ = (dE C e ρ).then fun (_, o) => .nx (now ρ o) := (rfl)
@[scoped simp] theorem dS_iff (C : Cfg) (t) (a) (b) (ρ : Env) : dS C (.iff t a b) ρ = (dT C t ρ).then fun (x, o) => match x with
    | true => dSs C a (now ρ o)
    | false => dSs C b (now ρ o) := (rfl)
@[scoped simp] theorem dS_whl (C : Cfg) (t) (body) (ρ : Env) : dS C (.whl t body) ρ = loopW (dT C t) (dSs C body) C.fuel ρ := (rfl)
@[scoped simp] theorem dS_ret (C : Cfg) (e) (ρ : Env) : dS C (.ret e) ρ = (dE C e ρ).then fun (d, o) => .ret d (now ρ o) := (rfl)
@[scoped simp] theorem dS_retN (C : Cfg)  (ρ : Env) : dS C .retN ρ = .ret .non ρ := (rfl)
@[scoped simp] theorem dS_rs (C : Cfg) (c) (es) (ρ : Env) : dS C (.rs c es) ρ = (dEs C es ρ).then fun (xs, o) => match xs with
    | [.str z] => match decide (z.length ≤ 1000) with
      | true => .exc c (.str z) (now ρ o)
      | false => .stuck
    | _ => .stuck := (rfl)
@[scoped simp] theorem dS_try_ (C : Cfg) (body) (hs) (ρ : Env) : dS C (.try_ body hs) ρ = match dSs C body ρ with
    | .exc c d ρ' => dHs C hs c d ρ'
    | r => r := (rfl)
@[scoped simp] theorem dS_brk (C : Cfg)  (ρ : Env) : dS C .brk ρ = .bk ρ := (rfl)
@[scoped simp] theorem dS_cnt (C : Cfg)  (ρ : Env) : dS C .cnt ρ = .ct ρ := (rfl)
@[scoped simp] theorem dS_pass (C : Cfg)  (ρ : Env) : dS C .pass ρ = .nx ρ := (rfl)
@[scoped simp] theorem dS_never (C : Cfg)  (u0 : Env) : dS C .never u0 = .stuck := (rfl)
@[scoped simp] theorem dSs_nil (C : Cfg)  (ρ : Env) : dSs C .nil ρ = .nx ρ := (rfl)
@[scoped simp] theorem dSs_cons (C : Cfg) (s) (ss) (ρ : Env) : dSs C (.cons s ss) ρ = (dS C s ρ).seq fun ρ' => dSs C ss ρ' := (rfl)
@[scoped simp] theorem dHs_nil (C : Cfg)  (c) (d) (ρ : Env) : dHs C .nil c d ρ = .exc c d ρ := (rfl)
@[scoped simp] theorem dHs_cons (C : Cfg) (c') (i) (suite) (hs) (c) (d) (ρ : Env) : dHs C (.cons c' i suite hs) c d ρ = match C.sub c c' with
    | true => match i with
      | some i => (dXs C c d suite (ρ.set i .gone)).mapE fun r => r.set i .gone
      | none => dXs C c d suite ρ
    | false => dHs C hs c d ρ := (rfl)
@[scoped simp] theorem now_none (ρ : Env) : now ρ none = ρ := (rfl)
@[scoped simp] theorem now_some (ρ r : Env) : now ρ (some r) = r := (rfl)
@[scoped simp] theorem orE_none (o : Option Env) : orE none o = o := (rfl)
@[scoped simp] theorem orE_some (r : Env) (o : Option Env) : orE (some r) o = some r := (rfl)
@[scoped simp] theorem firm_var (i : Nat) : (OV.pl i []).firm = true := (rfl)
@[scoped simp] theorem firm_tm (d : D) : (OV.tm d).firm = true := (rfl)
@[scoped simp] theorem firm_path (i n : Nat) (π : List Nat) : (OV.pl i (n :: π)).firm = false := (rfl)
@[scoped simp] theorem rd_pl (ρ : Env) (i : Nat) (π : List Nat) : (OV.pl i π).rd ρ = getS ρ i π := (rfl)
@[scoped simp] theorem rd_tm (ρ : Env) (d : D) : (OV.tm d).rd ρ = soft d := (rfl)
@[scoped simp] theorem slot_zero (d : D) (ρ : Env) : slot (d :: ρ) 0 = d := (rfl)
@[scoped simp] theorem slot_succ (d : D) (ρ : Env) (n : Nat) : slot (d :: ρ) (n + 1) = slot ρ n := (rfl)
@[scoped simp] theorem ofO_some (d : D) (o : Option Env) : ofO (some d) o = .ok (d, o) := (rfl)
@[scoped simp] theorem ofO_none (o : Option Env) : ofO none o = .stuck := (rfl)
@[scoped simp] theorem Rof_some {α : Type} (a : α) : R.of (some a) = .ok a := (rfl)
theorem shL_map_int : ∀ xs : List Int, shL (xs.map D.int) = true
  | [] => rfl
  | _ :: xs => by simp [shL, sh, shL_map_int xs]
end Mq
namespace Mq
open Mp
@[scoped simp] theorem getP_nil (d : D) : getP d [] = some d := (rfl)
@[scoped simp] theorem getP_cons (d : D) (n : Nat) (π : List Nat) : getP d (n :: π) = match kids d with
    | some xs => match xs[n]? with
      | some c => getP c π
      | none => none
    | none => none := by cases d <;> rfl
@[scoped simp] theorem setP_nil (d x : D) : setP d [] x = x := by cases d <;> rfl
@[scoped simp] theorem setP_cons (d : D) (n : Nat) (π : List Nat) (x : D) : setP d (n :: π) x = match kids d with
    | some xs => match xs[n]? with
      | some c => withKids d (xs.set n (setP c π x))
      | none => d
    | none => d := by cases d <;> rfl
@[scoped simp] theorem kids_lst (xs : List D) : kids (.lst true xs) = some xs := (rfl)
@[scoped simp] theorem kids_lstf (xs : List D) : kids (.lst false xs) = none := (rfl)
@[scoped simp] theorem kids_dct (k ks vs) : kids (.dct true k ks vs) = some vs := (rfl)
@[scoped simp] theorem kids_ins (c fs vs) : kids (.ins true c fs vs) = some vs := (rfl)
@[scoped simp] theorem kids_insf (c fs vs) : kids (.ins false c fs vs) = none := (rfl)
@[scoped simp] theorem withKids_lst (o xs ys) : withKids (.lst o xs) ys = .lst o ys := (rfl)
@[scoped simp] theorem withKids_dct (o k ks vs ys) : withKids (.dct o k ks vs) ys = .dct o k ks ys := (rfl)
@[scoped simp] theorem withKids_ins (o c fs vs ys) : withKids (.ins o c fs vs) ys = .ins o c fs ys := (rfl)
@[scoped simp] theorem sh_non : sh .non = true := (rfl)
@[scoped simp] theorem sh_bl (b) : sh (.bl b) = true := (rfl)
@[scoped simp] theorem sh_int (b) : sh (.int b) = true := (rfl)
@[scoped simp] theorem sh_str (b) : sh (.str b) = true := (rfl)
@[scoped simp] theorem sh_scr (b) : sh (.scr b) = true := (rfl)
@[scoped simp] theorem sh_gone : sh .gone = false := (rfl)
@[scoped simp] theorem sh_tup (xs) : sh (.tup xs) = shL xs := (rfl)
@[scoped simp] theorem sh_lst (o xs) : sh (.lst o xs) = (!o && shL xs) := (rfl)
@[scoped simp] theorem sh_dct (o k ks vs) : sh (.dct o k ks vs) = (!o && shL vs) := (rfl)
@[scoped simp] theorem sh_ins (o c fs vs) : sh (.ins o c fs vs) = (!o && shL vs) := (rfl)
@[scoped simp] theorem shL_nil : shL [] = true := (rfl)
@[scoped simp] theorem shL_cons (x xs) : shL (x :: xs) = (sh x && shL xs) := (rfl)
@[scoped simp] theorem shL_app : ∀ xs ys : List D, shL (xs ++ ys) = (shL xs && shL ys)
  | [], ys => by simp
  | x :: xs, ys => by simp [shL_app xs ys, Bool.and_assoc]
theorem shL_of : ∀ {xs : List D}, (∀ x ∈ xs, sh x = true) → shL xs = true
  | [], _ => rfl
  | x :: xs, h => by rw [shL_cons, h x (by simp), shL_of fun y hy => h y (List.mem_cons_of_mem _ hy)]; rfl
@[scoped simp] theorem shL_map {α : Type} (f : α → D) : ∀ xs : List α, (∀ x, sh (f x) = true) → shL (xs.map f) = true := fun xs h => shL_of (by simp [h])
@[scoped simp] theorem fz_non : fz .non = .non := (rfl)
@[scoped simp] theorem fz_bl (b) : fz (.bl b) = .bl b := (rfl)
@[scoped simp] theorem fz_int (b) : fz (.int b) = .int b := (rfl)
@[scoped simp] theorem fz_str (b) : fz (.str b) = .str b := (rfl)
@[scoped simp] theorem fz_scr (b) : fz (.scr b) = .scr b := (rfl)
@[scoped simp] theorem fz_tup (xs) : fz (.tup xs) = .tup (fzL xs) := (rfl)
@[scoped simp] theorem fz_lst (o xs) : fz (.lst o xs) = .lst false (fzL xs) := (rfl)
@[scoped simp] theorem fz_dct (o k ks vs) : fz (.dct o k ks vs) = .dct false k ks (fzL vs) := (rfl)
@[scoped simp] theorem fz_ins (o c fs vs) : fz (.ins o c fs vs) = .ins false c fs (fzL vs) := (rfl)
@[scoped simp] theorem fzL_nil : fzL [] = [] := (rfl)
@[scoped simp] theorem fzL_cons (x xs) : fzL (x :: xs) = fz x :: fzL xs := (rfl)
theorem fz_shL : ∀ xs : List D, fzL xs = xs.map fz
  | [] => rfl
  | x :: xs => by simp [fz_shL xs]
mutual
theorem fz_of_sh : ∀ d : D, sh d = true → fz d = d
  | .non, _ => rfl | .bl _, _ => rfl | .int _, _ => rfl | .str _, _ => rfl | .scr _, _ => rfl
  | .tup xs, h => by simp at h; simp [fzL_of_sh xs h]
  | .lst o xs, h => by simp at h; simp [fzL_of_sh xs h.2, h.1]
  | .dct o k ks xs, h => by simp at h; simp [fzL_of_sh xs h.2, h.1]
  | .ins o c fs xs, h => by simp at h; simp [fzL_of_sh xs h.2, h.1]
  | .gone, h => by simp at h
theorem fzL_of_sh : ∀ xs : List D, shL xs = true → fzL xs = xs
  | [], _ => rfl
  | x :: xs, h => by simp at h; simp [fz_of_sh x h.1, fzL_of_sh xs h.2]
end
mutual
theorem fzable_of_sh : ∀ d : D, sh d = true → fzable d = true
  | .non, _ => rfl | .bl _, _ => rfl | .int _, _ => rfl | .str _, _ => rfl | .scr _, _ => rfl
  | .tup xs, h => by simp at h; simpa [fzable] using fzableL_of_sh xs h
  | .lst o xs, h => by simp at h; simpa [fzable] using fzableL_of_sh xs h.2
  | .dct o k ks xs, h => by simp at h; simpa [fzable] using fzableL_of_sh xs h.2
  | .ins o c fs xs, h => by simp at h; simpa [fzable] using fzableL_of_sh xs h.2
  | .gone, h => by simp at h
theorem fzableL_of_sh : ∀ xs : List D, shL xs = true → fzableL xs = true
  | [], _ => rfl
  | x :: xs, h => by simp at h; simp [fzableL, fzable_of_sh x h.1, fzableL_of_sh xs h.2]
end
@[scoped simp] theorem fzable_non : fzable .non = true := (rfl)
@[scoped simp] theorem fzable_bl (b) : fzable (.bl b) = true := (rfl)
@[scoped simp] theorem fzable_int (b) : fzable (.int b) = true := (rfl)
@[scoped simp] theorem fzable_str (b) : fzable (.str b) = true := (rfl)
@[scoped simp] theorem fzable_scr (b) : fzable (.scr b) = true := (rfl)
@[scoped simp] theorem fzable_tup (xs) : fzable (.tup xs) = fzableL xs := (rfl)
@[scoped simp] theorem fzable_lst (o xs) : fzable (.lst o xs) = fzableL xs := (rfl)
@[scoped simp] theorem fzable_dct (o k ks xs) : fzable (.dct o k ks xs) = fzableL xs := (rfl)
@[scoped simp] theorem fzable_ins (o c fs xs) : fzable (.ins o c fs xs) = fzableL xs := (rfl)
@[scoped simp] theorem fzableL_nil : fzableL [] = true := (rfl)
@[scoped simp] theorem fzableL_cons (x xs) : fzableL (x :: xs) = (fzable x && fzableL xs) := (rfl)
/-- data without owned or unknown parts (a simp procedure's side condition) -/
theorem fzL_map {α : Type} (f : α → D) (xs : List α) (h : ∀ x, sh (f x) = true) : fzL (xs.map f) = xs.map f := fzL_of_sh _ (shL_map f xs h)
@[scoped simp] theorem soft_non : soft .non = some .non := (rfl)
@[scoped simp] theorem soft_bl (b) : soft (.bl b) = some (.bl b) := (rfl)
@[scoped simp] theorem soft_int (b) : soft (.int b) = some (.int b) := (rfl)
@[scoped simp] theorem soft_str (b) : soft (.str b) = some (.str b) := (rfl)
@[scoped simp] theorem soft_scr (b) : soft (.scr b) = some (.scr b) := (rfl)
@[scoped simp] theorem soft_tup (xs) : soft (.tup xs) = match shL xs with
    | true => some (.tup xs)
    | false => match fzableL xs with
      | true => some (.tup (fzL xs))
      | false => none := (rfl)
@[scoped simp] theorem soft_lst (o xs) : soft (.lst o xs) = match shL xs with
    | true => some (.lst o xs)
    | false => match fzableL xs with
      | true => some (.lst false (fzL xs))
      | false => none := (rfl)
@[scoped simp] theorem soft_dct (o k ks xs) : soft (.dct o k ks xs) = match shL xs with
    | true => some (.dct o k ks xs)
    | false => match fzableL xs with
      | true => some (.dct false k ks (fzL xs))
      | false => none := (rfl)
@[scoped simp] theorem soft_ins (o k ks xs) : soft (.ins o k ks xs) = match shL xs with
    | true => some (.ins o k ks xs)
    | false => match fzableL xs with
      | true => some (.ins false k ks (fzL xs))
      | false => none := (rfl)
@[scoped simp] theorem bind_var (i d ρ) : bindT (.var i) d ρ = some (ρ.set i d) := (rfl)
@[scoped simp] theorem bind_tup (ts xs ρ) : bindT (.tup ts) (.tup xs) ρ = bindT.bindTs ts xs ρ := (rfl)
@[scoped simp] theorem binds_nil (ρ) : bindT.bindTs .nil [] ρ = some ρ := (rfl)
@[scoped simp] theorem binds_cons (t ts x xs ρ) : bindT.bindTs (.cons t ts) (x :: xs) ρ = match bindT t x ρ with
    | some ρ' => bindT.bindTs ts xs ρ'
    | none => none := (rfl)
@[scoped simp] theorem rdL_nil (ρ) : rdL ρ [] = some [] := (rfl)
@[scoped simp] theorem rdL_cons (ρ a as) : rdL ρ (a :: as) = match a.rd ρ, rdL ρ as with
    | some d, some ds => some (d :: ds)
    | _, _ => none := (rfl)
@[scoped simp] theorem takeL_nil (ρ) : takeL [] ρ = some ([], [], none) := (rfl)
@[scoped simp] theorem takeL_cons (a as ρ) : takeL (a :: as) ρ = match takeV ρ a with
  | none => none
  | some (d, b, o1) => match takeL as (now ρ o1) with
    | none => none
    | some (ds, bs, o2) => some (d :: ds, b :: bs, orE o2 o1) := (rfl)
@[scoped simp] theorem outs_nil (ρ) : outsOf [] ρ = [] := (rfl)
@[scoped simp] theorem outs_t (bs d ρ) : outsOf (true :: bs) (d :: ρ) = d :: outsOf bs ρ := (rfl)
@[scoped simp] theorem outs_f (bs d ρ) : outsOf (false :: bs) (d :: ρ) = .gone :: outsOf bs ρ := (rfl)
@[scoped simp] theorem toInts_nil : toInts [] = some [] := (rfl)
@[scoped simp] theorem toInts_cons (i xs) : toInts (.int i :: xs) = match toInts xs with
    | some r => some (i :: r)
    | none => none := (rfl)
@[scoped simp] theorem toInts_map : ∀ xs : List Int, toInts (xs.map D.int) = some xs
  | [] => rfl
  | x :: xs => by simp [toInts_map xs]
@[scoped simp] theorem seqOf_lst (o xs) : seqOf (.lst o xs) = some xs := (rfl)
@[scoped simp] theorem seqOf_tup (xs) : seqOf (.tup xs) = some xs := (rfl)
@[scoped simp] theorem eqD_int (i j) : eqD (.int i) (.int j) = decide (i = j) := (rfl)
@[scoped simp] theorem eqD_str (i j) : eqD (.str i) (.str j) = (i == j) := (rfl)
@[scoped simp] theorem eqD_bl (i j) : eqD (.bl i) (.bl j) = (i == j) := (rfl)
@[scoped simp] theorem eqD_tup (i j) : eqD (.tup i) (.tup j) = eqL i j := (rfl)
@[scoped simp] theorem eqD_lst (a i b j) : eqD (.lst a i) (.lst b j) = eqL i j := (rfl)
@[scoped simp] theorem eqL_nil : eqL [] [] = true := (rfl)
@[scoped simp] theorem eqL_cons (a i b j) : eqL (a :: i) (b :: j) = (eqD a b && eqL i j) := (rfl)
@[scoped simp] theorem okD_int (n i) : okD n (.int i) = true := by cases n <;> rfl
@[scoped simp] theorem okD_bl (n i) : okD n (.bl i) = true := by cases n <;> rfl
@[scoped simp] theorem okD_non (n) : okD n .non = true := by cases n <;> rfl
def strOk (s : PySem.Str) : Bool := s.cps.all fun c => decide (c < 0x110000)
@[scoped simp] theorem okD_str (n s) : okD n (.str s) = strOk s := by cases n <;> rfl
@[scoped simp] theorem okD_tup (n xs) : okD (n + 1) (.tup xs) = okL n xs := (rfl)
@[scoped simp] theorem okD_lst (n o xs) : okD (n + 1) (.lst o xs) = okL n xs := (rfl)
@[scoped simp] theorem okL_nil (n) : okL n [] = true := by cases n <;> rfl
@[scoped simp] theorem okL_cons (n x xs) : okL n (x :: xs) = (okD n x && okL n xs) := by cases n <;> rfl
@[scoped simp] theorem okL_app (n) : ∀ xs ys : List D, okL n (xs ++ ys) = (okL n xs && okL n ys)
  | [], ys => by simp
  | x :: xs, ys => by simp [okL_app n xs ys, Bool.and_assoc]
theorem okL_of (n) : ∀ {xs : List D}, (∀ x ∈ xs, okD n x = true) → okL n xs = true
  | [], _ => by simp
  | x :: xs, h => by rw [okL_cons, h x (by simp), okL_of n fun y hy => h y (List.mem_cons_of_mem _ hy)]; rfl
@[scoped simp] theorem lockI_lock (i ρ) : lockI (.lock i) ρ = ρ.set i .gone := (rfl)
@[scoped simp] theorem lockI_seq (i ρ) : lockI (.seq i) ρ = ρ := (rfl)
@[scoped simp] theorem lockI_rng (i ρ) : lockI (.rng1 i) ρ = ρ := (rfl)
@[scoped simp] theorem lockI_rng2 (i j ρ) : lockI (.rng2 i j) ρ = ρ := (rfl)
@[scoped simp] theorem unlockI_lock (i r ρ) : unlockI (.lock i) r ρ = ρ.set i (slot r i) := (rfl)
@[scoped simp] theorem unlockI_seq (i r ρ) : unlockI (.seq i) r ρ = ρ := (rfl)
@[scoped simp] theorem unlockI_rng (i r ρ) : unlockI (.rng1 i) r ρ = ρ := (rfl)
@[scoped simp] theorem unlockI_rng2 (i j r ρ) : unlockI (.rng2 i j) r ρ = ρ := (rfl)
@[scoped simp] theorem wipe_nil (ρ) : wipe [] ρ = ρ := (rfl)
@[scoped simp] theorem wipe_cons (i r ρ) : wipe (i :: r) ρ = (wipe r ρ).set i .gone := (rfl)
@[scoped simp] theorem unwipe_nil (a ρ) : unwipe [] a ρ = ρ := (rfl)
@[scoped simp] theorem unwipe_cons (i r a ρ) : unwipe (i :: r) a ρ = unwipe r a (ρ.set i (slot a i)) := (rfl)
@[scoped simp] theorem ownOk_nil (ρ) : ownOk [] ρ = true := (rfl)
@[scoped simp] theorem ownOk_cons (i r ρ) : ownOk (i :: r) ρ = ((match slot ρ i with
  | .gone => true
  | d => sh d) && ownOk r ρ) := (rfl)
@[scoped simp] theorem back_none (own) : back own none = none := (rfl)
@[scoped simp] theorem back_some (own r) : back own (some r) = some (wipe own r) := (rfl)
@[scoped simp] theorem compO_none (it own r o) : compO it own r o none = o := (rfl)
@[scoped simp] theorem compO_some (it own r o q) : compO it own r o (some q) = some (unlockI it r (unwipe own (lockI it r) q)) := (rfl)
@[scoped simp] theorem mapE_nx (g ρ) : (SR.nx ρ).mapE g = .nx (g ρ) := (rfl)
@[scoped simp] theorem mapE_ret (g d ρ) : (SR.ret d ρ).mapE g = .ret d (g ρ) := (rfl)
@[scoped simp] theorem mapE_exc (g c d ρ) : (SR.exc c d ρ).mapE g = .exc c d (g ρ) := (rfl)
@[scoped simp] theorem rngL_len (i : Int) : ∀ n : Nat, (rngL i n).length = n
  | 0 => rfl
  | n + 1 => by simp [rngL, rngL_len (i + 1) n]
theorem rngL_get (k : Int) : ∀ (n j : Nat), j < n → (rngL k n)[j]? = some (.int (k + j))
  | n + 1, 0, _ => by simp [rngL]
  | n + 1, j + 1, h => by
    have := rngL_get (k + 1) n j (by omega)
    simp only [rngL, List.getElem?_cons_succ, this]
    simp; omega
theorem rngL_eq (k : Int) : ∀ n : Nat, rngL k n = (List.range n).map fun j : Nat => D.int (k + j) := by
  intro n
  apply List.ext_getElem?
  intro j
  by_cases h : j < n
  · rw [rngL_get k n j h]; simp [h]
  · rw [List.getElem?_eq_none (by simp; omega), List.getElem?_eq_none (by simp; omega)]
end Mq
namespace Mq
open Mp
@[scoped simp] theorem bl_len_lst (o xs) : blD .len [.lst o xs] = some (.int xs.length) := (rfl)
@[scoped simp] theorem bl_len_tup (xs) : blD .len [.tup xs] = some (.int xs.length) := (rfl)
@[scoped simp] theorem bl_len_scr (xs) : blD .len [.scr xs] = some (.int xs.length) := (rfl)
@[scoped simp] theorem bl_len_dct (o k ks xs) : blD .len [.dct o k ks xs] = some (.int ks.length) := (rfl)
@[scoped simp] theorem bl_abs (i) : blD .abs [.int i] = some (.int (if i < 0 then -i else i)) := (rfl)
@[scoped simp] theorem bl_int (i) : blD .int [.int i] = some (.int i) := (rfl)
@[scoped simp] theorem bl_intb (b) : blD .int [.bl b] = some (.int (b2i b)) := (rfl)
@[scoped simp] theorem bl_bool (i) : blD .bool [.int i] = some (.bl (i != 0)) := (rfl)
@[scoped simp] theorem bl_boolb (b) : blD .bool [.bl b] = some (.bl b) := (rfl)
@[scoped simp] theorem bl_min2 (i j) : blD .min2 [.int i, .int j] = some (.int (if j < i then j else i)) := (rfl)
@[scoped simp] theorem bl_max2 (i j) : blD .max2 [.int i, .int j] = some (.int (if j > i then j else i)) := (rfl)
@[scoped simp] theorem bl_min1 (d) : blD .min1 [d] = match seqOf d with
    | some xs => match toInts xs with
      | some (x :: r) => some (.int (minI x r))
      | _ => none
    | none => none := by cases d <;> rfl
@[scoped simp] theorem bl_max1 (d) : blD .max1 [d] = match seqOf d with
    | some xs => match toInts xs with
      | some (x :: r) => some (.int (maxI x r))
      | _ => none
    | none => none := by cases d <;> rfl
@[scoped simp] theorem bl_sum (o xs) : blD .sum [.lst o xs] = match toInts xs with
    | some a => some (.int a.sum)
    | none => none := (rfl)
@[scoped simp] theorem bl_any (o xs) : blD .any [.lst o xs] = match bools xs with
    | some a => some (.bl (a.any id))
    | none => none := (rfl)
@[scoped simp] theorem bl_all (o xs) : blD .all [.lst o xs] = match bools xs with
    | some a => some (.bl (a.all id))
    | none => none := (rfl)
@[scoped simp] theorem bl_list_lst (o xs) : blD .list [.lst o xs] = if shL xs then some (.lst true xs) else none := (rfl)
@[scoped simp] theorem bl_list_tup (xs) : blD .list [.tup xs] = if shL xs then some (.lst true xs) else none := (rfl)
@[scoped simp] theorem bl_tuple_lst (o xs) : blD .tuple [.lst o xs] = if shL xs then some (.tup xs) else none := (rfl)
@[scoped simp] theorem bl_tuple_tup (xs) : blD .tuple [.tup xs] = if shL xs then some (.tup xs) else none := (rfl)
@[scoped simp] theorem bl_sorted_lst (o xs) : blD .sorted [.lst o xs] = match toInts xs with
    | some a => some (.lst true ((sortI a).map D.int))
    | none => none := (rfl)
@[scoped simp] theorem bl_sorted_dct (o k ks vs) : blD .sorted [.dct o k ks vs] = match toInts ks with
    | some a => if decide (a.length < 64) then some (.lst true ((sortI a).map D.int)) else none
    | none => none := (rfl)
@[scoped simp] theorem bl_lenset (o xs) : blD .lenset [.lst o xs] = match toInts xs with
    | some a => if decide (a.length < 1000) then some (.int (dedI a).length) else none
    | none => none := (rfl)
@[scoped simp] theorem bl_sortedset (o xs) : blD .sortedset [.lst o xs] = match toInts xs with
    | some a => if decide (a.length < 60) then some (.lst true ((sortI (dedI a)).map D.int)) else none
    | none => none := (rfl)
@[scoped simp] theorem bl_isinst (t d) : blD (.isinst t) [d] = (isTy d t).map D.bl := by cases d <;> rfl
@[scoped simp] theorem bl_isinst2 (t u d) : blD (.isinst2 t u) [d] = match isTy d t, isTy d u with
    | some a, some b => some (.bl (a || b))
    | _, _ => none := by cases d <;> rfl
@[scoped simp] theorem bm_append (xs x) : bmD .append (.lst true xs) [x] = if decide (xs.length < line) then some (.non, .lst true (xs ++ [x])) else none := (rfl)
@[scoped simp] theorem bm_pop0 (xs) : bmD .pop0 (.lst true xs) [] = match xs[xs.length - 1]? with
    | some x => some (x, .lst true xs.dropLast)
    | none => none := (rfl)
@[scoped simp] theorem bm_reverse (xs) : bmD .reverse (.lst true xs) [] = some (.non, .lst true xs.reverse) := (rfl)
@[scoped simp] theorem bm_clear (xs) : bmD .clear (.lst true xs) [] = some (.non, .lst true []) := (rfl)
@[scoped simp] theorem bm_setdef (k ks vs x y) : bmD .setdef (.dct true k ks vs) [x, y] = if keyOk k x then (match findD x ks with
      | some _ => if decide (ks.length < line) then some (.gone, .dct true k ks vs) else none
      | none => if decide (ks.length < line) then some (.gone, .dct true k (ks ++ [x]) (vs ++ [y])) else none) else none := (rfl)
@[scoped simp] theorem bmTy_lst (xs) : bmTy (.lst true xs) = some true := (rfl)
@[scoped simp] theorem bmTy_dct (ks xs) : bmTy (.dct true true ks xs) = some false := (rfl)
@[scoped simp] theorem bmFor_append : bmFor .append = true := (rfl)
@[scoped simp] theorem bmFor_pop0 : bmFor .pop0 = true := (rfl)
@[scoped simp] theorem bmFor_pop1 : bmFor .pop1 = true := (rfl)
@[scoped simp] theorem bmFor_extend : bmFor .extend = true := (rfl)
@[scoped simp] theorem bmFor_insert : bmFor .insert = true := (rfl)
@[scoped simp] theorem bmFor_remove : bmFor .remove = true := (rfl)
@[scoped simp] theorem bmFor_reverse : bmFor .reverse = true := (rfl)
@[scoped simp] theorem bmFor_sort : bmFor .sort = true := (rfl)
@[scoped simp] theorem bmFor_clear : bmFor .clear = true := (rfl)
@[scoped simp] theorem bmFor_setdef : bmFor .setdef = false := (rfl)
@[scoped simp] theorem bi_add (i j) : binI .add i j = some (.int (i + j)) := (rfl)
@[scoped simp] theorem bi_sub (i j) : binI .sub i j = some (.int (i - j)) := (rfl)
@[scoped simp] theorem bi_mul (i j) : binI .mul i j = if small64 i || small64 j then some (.int (i * j)) else none := (rfl)
@[scoped simp] theorem bi_fdiv (i j) : binI .fdiv i j = if decide (j ≠ 0) && decide (j.natAbs < 1073741824) then some (.int (i.fdiv j)) else none := (rfl)
@[scoped simp] theorem bi_mod (i j) : binI .mod i j = if decide (j ≠ 0) then some (.int (i.fmod j)) else none := (rfl)
@[scoped simp] theorem bi_pow (i j) : binI .pow i j = if decide (0 ≤ j) && decide (j ≤ 1000000) && decide (i.natAbs < 18446744073709551616) then some (.int (i ^ j.toNat)) else none := (rfl)
@[scoped simp] theorem bd_int (op i j) : binD op (.int i) (.int j) = binI op i j := (rfl)
@[scoped simp] theorem bd_addb (i b) : binD .add (.int i) (.bl b) = some (.int (i + b2i b)) := (rfl)
@[scoped simp] theorem bd_addl (o p xs ys) : binD .add (.lst o xs) (.lst p ys) = if shL xs && shL ys && decide (xs.length + ys.length ≤ line) then some (.lst true (xs ++ ys)) else none := (rfl)
@[scoped simp] theorem bd_addt (xs ys) : binD .add (.tup xs) (.tup ys) = if shL xs && shL ys && decide (xs.length + ys.length ≤ line) then some (.tup (xs ++ ys)) else none := (rfl)
@[scoped simp] theorem cd_eq (x y) : cmpD .eq x y = if okD 64 x && okD 64 y then some (.bl (eqD x y)) else none := (rfl)
@[scoped simp] theorem cd_ne (x y) : cmpD .ne x y = if okD 64 x && okD 64 y then some (.bl (!eqD x y)) else none := (rfl)
@[scoped simp] theorem cd_lt (i j) : cmpD .lt (.int i) (.int j) = some (.bl (decide (i < j))) := (rfl)
@[scoped simp] theorem cd_le (i j) : cmpD .le (.int i) (.int j) = some (.bl (decide (i ≤ j))) := (rfl)
@[scoped simp] theorem cd_gt (i j) : cmpD .gt (.int i) (.int j) = some (.bl (decide (j < i))) := (rfl)
@[scoped simp] theorem cd_ge (i j) : cmpD .ge (.int i) (.int j) = some (.bl (decide (j ≤ i))) := (rfl)
@[scoped simp] theorem cd_is_non (x) : cmpD .is_ x .non = match x with
  | .gone => none
  | .non => some (.bl true)
  | _ => some (.bl false) := by cases x <;> rfl
@[scoped simp] theorem cd_isnot_non (x) : cmpD .isnot x .non = match x with
  | .gone => none
  | .non => some (.bl false)
  | _ => some (.bl true) := by cases x <;> rfl
@[scoped simp] theorem cd_is_bl (a b) : cmpD .is_ (.bl a) (.bl b) = some (.bl (a == b)) := (rfl)
@[scoped simp] theorem cd_isnot_bl (a b) : cmpD .isnot (.bl a) (.bl b) = some (.bl (!(a == b))) := (rfl)
@[scoped simp] theorem tr_non : truth .non = some false := (rfl)
@[scoped simp] theorem tr_bl (b) : truth (.bl b) = some b := (rfl)
@[scoped simp] theorem tr_int (i) : truth (.int i) = some (i != 0) := (rfl)
@[scoped simp] theorem tr_tup (xs) : truth (.tup xs) = some (!xs.isEmpty) := (rfl)
@[scoped simp] theorem tr_lst (o xs) : truth (.lst o xs) = some (!xs.isEmpty) := (rfl)
@[scoped simp] theorem tr_dct (o k ks vs) : truth (.dct o k ks vs) = some (!ks.isEmpty) := (rfl)
@[scoped simp] theorem itemN_lst (o xs n) : itemN (.lst o xs) (.int n) = place n xs.length := (rfl)
@[scoped simp] theorem itemN_tup (xs n) : itemN (.tup xs) (.int n) = place n xs.length := (rfl)
@[scoped simp] theorem itemN_scr (xs n) : itemN (.scr xs) (.int n) = place n xs.length := (rfl)
@[scoped simp] theorem itemN_dct (o k ks vs x) : itemN (.dct o k ks vs) x = if keyOk k x then findD x ks else none := (rfl)
@[scoped simp] theorem kidsAny_tup (xs) : kidsAny (.tup xs) = xs := (rfl)
@[scoped simp] theorem kidsAny_scr (xs) : kidsAny (.scr xs) = xs.map D.int := (rfl)
@[scoped simp] theorem kidsAny_lst (o xs) : kidsAny (.lst o xs) = xs := (rfl)
@[scoped simp] theorem kidsAny_dct (o k ks xs) : kidsAny (.dct o k ks xs) = xs := (rfl)
@[scoped simp] theorem kidsAny_ins (o c fs xs) : kidsAny (.ins o c fs xs) = xs := (rfl)
@[scoped simp] theorem place_nat (a n : Nat) (h : a < n) : place (a : Int) n = some a := by
  simp [place, h]
theorem place_ok (i : Int) (n : Nat) (h0 : 0 ≤ i) (h : i < n) : place i n = some i.toNat := by simp [place, h0, h]
@[scoped simp] theorem optI_nil : optI [] = some none := (rfl)
@[scoped simp] theorem optI_one (i) : optI [.int i] = some (some i) := (rfl)
@[scoped simp] theorem cutD_lst (o xs a b) : cutD (.lst o xs) a b = if shL xs then some (.lst true (cut xs a b)) else none := (rfl)
@[scoped simp] theorem cutD_tup (xs a b) : cutD (.tup xs) a b = if shL xs then some (.tup (cut xs a b)) else none := (rfl)
@[scoped simp] theorem cut_to (xs : List D) (n : Nat) (h : n ≤ xs.length) : cut xs none (some (n : Int)) = xs.take n := by
  simp [cut, clampI, show ¬ ((n : Int) < 0) by omega, Nat.min_eq_left h]
@[scoped simp] theorem cut_from (xs : List D) (n : Nat) (h : n ≤ xs.length) : cut xs (some (n : Int)) none = xs.drop n := by
  simp [cut, clampI, show ¬ ((n : Int) < 0) by omega, Nat.min_eq_left h]
@[scoped simp] theorem cut_from1 (xs : List D) (n : Nat) (h : n < xs.length) : cut xs (some ((n : Int) + 1)) none = xs.drop (n + 1) := by
  rw [show ((n : Int) + 1) = ((n + 1 : Nat) : Int) by simp]
  exact cut_from xs (n + 1) h
@[scoped simp] theorem fldN_nil (f) : fldN f [] = none := (rfl)
@[scoped simp] theorem fldN_cons (f g r) : fldN f (g :: r) = if g = f then some 0 else (fldN f r).map (· + 1) := (rfl)
@[scoped simp] theorem rngD_1 (j) (h : okR j = true) : rngD [.int j] = some (rngL 0 j.toNat) := by simp only [rngD, h]; rfl
@[scoped simp] theorem rngD_2 (i j) (h : okR i = true) (h2 : okR j = true) : rngD [.int i, .int j] = some (rngL i (j - i).toNat) := by simp only [rngD, h, h2]; rfl
@[scoped simp] theorem keep_eq (ρ i π) : keep ρ i π = match getS ρ i π with
  | none => .stuck
  | some d => match sh d with
    | true => .ok (d, none)
    | false => match fzable d with
      | true => .ok (fz d, some (setS ρ i π (fz d)))
      | false => .stuck := (rfl)
@[scoped simp] theorem keepO_tm (ρ o d) : keepO ρ o (.tm d) = match soft d with
    | some d => .ok (d, o)
    | none => .stuck := (rfl)
@[scoped simp] theorem keepO_pl (ρ o i π) : keepO ρ o (.pl i π) = (keep (now ρ o) i π).bind fun (d, o2) => .ok (d, orE o2 o) := (rfl)
@[scoped simp] theorem takeV_tm (ρ d) : takeV ρ (.tm d) = some (d, none, none) := (rfl)
@[scoped simp] theorem takeV_pl (ρ i π) : takeV ρ (.pl i π) = match getS ρ i π with
    | none => none
    | some d => match sh d with
      | true => some (d, none, none)
      | false => match π with
        | [] => some (d, some i, some (ρ.set i .gone))
        | _ => none := (rfl)
@[scoped simp] theorem giveL_some (i bs x xs ρ) : giveL (some i :: bs) (x :: xs) ρ = giveL bs xs (ρ.set i x) := (rfl)
@[scoped simp] theorem giveL_none (bs x xs ρ) : giveL (none :: bs) (x :: xs) ρ = giveL bs xs ρ := (rfl)
@[scoped simp] theorem giveL_nil (xs ρ) : giveL [] xs ρ = ρ := (rfl)
@[scoped simp] theorem given_eq (bs outs ρ o) : given bs outs ρ o = match bs.any (·.isSome) with
  | true => some (giveL bs outs ρ)
  | false => o := (rfl)
@[scoped simp] theorem runF_eq (f as ρ o) : runF f as ρ o = match takeL as ρ with
  | none => .stuck
  | some (ds, bs, o1) => match f ds with
    | .ok d outs => .ok (d, given bs outs (now ρ o1) (orE o1 o))
    | .exc c d => .exc c d (now ρ o1)
    | .stuck => .stuck := (rfl)
@[scoped simp] theorem op2_eq (f a b o1 o2 ρ) : op2 f a b o1 o2 ρ = match a.firm || o2.isNone with
  | false => .stuck
  | true => match a.rd (now (now ρ o1) o2), b.rd (now (now ρ o1) o2) with
    | some x, some y => ofO (f x y) (orE o2 o1)
    | _, _ => .stuck := (rfl)
@[scoped simp] theorem op1_eq (f a o ρ) : op1 f a o ρ = match a.rd (now ρ o) with
  | some x => ofO (f x) o
  | none => .stuck := (rfl)
@[scoped simp] theorem getS_eq (ρ i π) : getS ρ i π = match getP (slot ρ i) π with
  | some .gone => none
  | o => o := (rfl)
@[scoped simp] theorem setS_eq (ρ i π x) : setS ρ i π x = ρ.set i (setP (slot ρ i) π x) := (rfl)
@[scoped simp] theorem midD_eq (a ρ) : midD a ρ = match a.rd ρ with
  | some y => match flat y with
    | true => .ok y
    | false => .stuck
  | none => .stuck := (rfl)
@[scoped simp] theorem flat_int (i) : flat (.int i) = true := (rfl)
@[scoped simp] theorem flat_bl (i) : flat (.bl i) = true := (rfl)
@[scoped simp] theorem flat_str (i) : flat (.str i) = true := (rfl)
@[scoped simp] theorem flat_non : flat .non = true := (rfl)
theorem dF_nx {C : Cfg} {f : Df} {ds : List D} {ρ : Env} (hl : ds.length = f.prot.length) (h : dSs C f.body (ds ++ List.replicate (f.slots - ds.length) .gone) = .nx ρ) : dF C f ds = .ok .non (outsOf f.prot ρ) := by
  unfold dF; rw [decide_eq_true hl]; simp only [h]
theorem dF_ret {C : Cfg} {f : Df} {ds : List D} {d : D} {ρ : Env} (hl : ds.length = f.prot.length) (h : dSs C f.body (ds ++ List.replicate (f.slots - ds.length) .gone) = .ret d ρ) : dF C f ds = .ok d (outsOf f.prot ρ) := by
  unfold dF; rw [decide_eq_true hl]; simp only [h]
theorem dF_exc {C : Cfg} {f : Df} {ds : List D} {c : Nat} {d : D} {ρ : Env} (hl : ds.length = f.prot.length) (h : dSs C f.body (ds ++ List.replicate (f.slots - ds.length) .gone) = .exc c d ρ) : dF C f ds = .exc c d := by
  unfold dF; rw [decide_eq_true hl]; simp only [h]
end Mq

namespace Mq
open Mp
/-- a turn of a for -/
def turnF (C : Cfg) (tg : Tg) (body : Ss) (x : D) (r : Env) : SR := match bindT tg x r with
  | none => .stuck
  | some r1 => dSs C body r1
@[scoped simp] theorem dS_for (C : Cfg) (it) (tg) (body) (ρ : Env) : dS C (.for_ it tg body) ρ = (dI C it ρ).then fun (xs, o) => (loopF (turnF C tg body) xs (lockI it (now ρ o))).mapE (unlockI it (now ρ o)) := (rfl)
/-- a turn of a comprehension -/
def turnC (C : Cfg) (tg : Tg) (own : List Nat) (cs : Cs) (elt : E) (x : D) (r : Env) : R (List D × Option Env) := match bindT tg x r with
  | none => .stuck
  | some r1 => (dCs C cs r1).bind fun (b, o1) => match b with
    | false => .ok ([], back own o1)
    | true => (dE C elt (now r1 o1)).bind fun (y, o2) => .ok ([y], back own (orE o2 o1))
@[scoped simp] theorem dE_lc (C : Cfg) (it) (tg) (own) (cs) (elt) (ρ : Env) : dE C (.lc it tg own cs elt) ρ = (dI C it ρ).bind fun (xs, o) => match ownOk own (lockI it (now ρ o)) with
    | false => .stuck
    | true => (compL (turnC C tg own cs elt) xs (wipe own (lockI it (now ρ o))) none).bind fun (ys, o3) =>
    if ys.length ≤ line then .ok (.lst true ys, compO it own (now ρ o) o o3) else .stuck := (rfl)
theorem turnF_var (C i body x r) : turnF C (.var i) body x r = dSs C body (r.set i x) := (rfl)
theorem turnF_two (C i j body x y r) : turnF C (.tup (.cons (.var i) (.cons (.var j) .nil))) body (.tup [x, y]) r = dSs C body ((r.set i x).set j y) := (rfl)
theorem turnC_var (C i own cs elt x r) : turnC C (.var i) own cs elt x r = (dCs C cs (r.set i x)).bind fun (b, o1) => match b with
    | false => .ok ([], back own o1)
    | true => (dE C elt (now (r.set i x) o1)).bind fun (y, o2) => .ok ([y], back own (orE o2 o1)) := (rfl)
theorem turnC_two (C i j own cs elt x z r) : turnC C (.tup (.cons (.var i) (.cons (.var j) .nil))) own cs elt (.tup [x, z]) r = (dCs C cs ((r.set i x).set j z)).bind fun (b, o1) => match b with
    | false => .ok ([], back own o1)
    | true => (dE C elt (now ((r.set i x).set j z) o1)).bind fun (y, o2) => .ok ([y], back own (orE o2 o1)) := (rfl)
/-- a loop over the numbers from 0, by an invariant -/
theorem loop_rng {turn : D → Env → SR} (I : Nat → Env → Prop) {ρ : Env} (n : Nat) (h : I 0 ρ) (k : ∀ j ρ, j < n → I j ρ → ∃ ρ', turn (.int j) ρ = .nx ρ' ∧ I (j + 1) ρ') : ∃ ρ', loopF turn (rngL 0 n) ρ = .nx ρ' ∧ I n ρ' := by
  obtain ⟨ρ', e, h'⟩ := loop_inv (turn := turn) I (xs := rngL 0 n) 0 h fun j x r hx hI => by
    have hj : j < n := by
      have := (List.getElem?_eq_some_iff.1 hx).1
      simpa using this
    rw [rngL_get 0 n j hj] at hx
    cases hx
    obtain ⟨ρ', e, h'⟩ := k j r hj (by simpa using hI)
    exact ⟨ρ', by simpa using e, by simpa using h'⟩
  exact ⟨ρ', e, by simpa using h'⟩
/-- a loop that leads the slots through a function of what was done -/
theorem loop_fold {α β : Type} {turn : D → Env → SR} (enc : α → D) (f : β → α → β) (ρ : β → Env) : ∀ (xs : List α) (b : β), (∀ b x, x ∈ xs → turn (enc x) (ρ b) = .nx (ρ (f b x))) → loopF turn (xs.map enc) (ρ b) = .nx (ρ (xs.foldl f b))
  | [], b, _ => rfl
  | x :: xs, b, k => by
    simp only [List.map_cons, List.foldl_cons]
    unfold loopF
    rw [k b x (by simp)]
    exact loop_fold enc f ρ xs (f b x) fun b y hy => k b y (by simp [hy])
end Mq
namespace Mq
open Mp
/-- a comprehension, by an invariant of the slots and of what is made -/
theorem comp_inv {turn : D → Env → R (List D × Option Env)} (J : Nat → Env → List D → Prop) {ρ : Env} : ∀ {xs : List D} {o : Option Env} {acc : List D} (i : Nat), J i (now ρ o) acc → (∀ j x r acc, xs[j]? = some x → J (i + j) r acc → ∃ y o1, turn x r = .ok (y, o1) ∧ J (i + j + 1) (now r o1) (acc ++ y)) → ∃ ys o', compL turn xs ρ o = .ok (ys, o') ∧ J (i + xs.length) (now ρ o') (acc ++ ys)
  | [], o, acc, i, h, _ => ⟨[], o, rfl, by simpa using h⟩
  | x :: xs, o, acc, i, h, k => by
    obtain ⟨y, o1, e1, h1⟩ := k 0 x _ acc rfl h
    have e2 : now ρ (orE o1 o) = now (now ρ o) o1 := by cases o1 <;> rfl
    obtain ⟨ys, o', e, h2⟩ := comp_inv J (ρ := ρ) (xs := xs) (o := orE o1 o) (acc := acc ++ y) (i + 1) (by rw [e2]; exact h1) fun j z r ac hz hJ => by
      have e3 : i + 1 + j = i + (j + 1) := by omega
      rw [e3] at hJ ⊢
      exact k (j + 1) z r ac hz hJ
    refine ⟨y ++ ys, o', ?_, ?_⟩
    · unfold compL
      rw [e1]
      simp only [R.calm, R.bind]
      rw [e]
    · have e3 : i + (x :: xs).length = i + 1 + xs.length := by simp; omega
      rw [e3, ← List.append_assoc]
      exact h2
theorem comp_rng {turn : D → Env → R (List D × Option Env)} (J : Nat → Env → List D → Prop) {ρ : Env} (n : Nat) (h : J 0 ρ []) (k : ∀ j r acc, j < n → J j r acc → ∃ y o1, turn (.int j) r = .ok (y, o1) ∧ J (j + 1) (now r o1) (acc ++ y)) : ∃ ys o', compL turn (rngL 0 n) ρ none = .ok (ys, o') ∧ J n (now ρ o') ys := by
  obtain ⟨ys, o', e, h'⟩ := comp_inv (turn := turn) J (ρ := ρ) (xs := rngL 0 n) (o := none) (acc := []) 0 h fun j x r acc hx hJ => by
    have hj : j < n := by
      have := (List.getElem?_eq_some_iff.1 hx).1
      simpa using this
    rw [rngL_get 0 n j hj] at hx
    cases hx
    obtain ⟨y, o1, e, h'⟩ := k j r acc hj (by simpa using hJ)
    exact ⟨y, o1, by simpa using e, by simpa using h'⟩
  exact ⟨ys, o', e, by simpa using h'⟩
/-- a comprehension over encoded things whose turns leave the slots alone -/
theorem comp_enc {α : Type} {turn : D → Env → R (List D × Option Env)} (enc : α → D) (g : α → List D) {ρ : Env} {xs : List α} (k : ∀ x ∈ xs, turn (enc x) ρ = .ok (g x, none)) : compL turn (xs.map enc) ρ none = .ok (xs.flatMap g, none) := by
  induction xs with
  | nil => rfl
  | cons x xs ih =>
    simp only [List.map_cons, List.flatMap_cons]
    unfold compL
    rw [show now ρ none = ρ from rfl, k x (by simp)]
    simp only [R.calm, R.bind, orE]
    rw [ih fun y hy => k y (by simp [hy])]
/-- the same, one thing a turn -/
theorem comp_one {α : Type} {turn : D → Env → R (List D × Option Env)} (enc : α → D) (g : α → D) {ρ : Env} {xs : List α} (k : ∀ x ∈ xs, turn (enc x) ρ = .ok ([g x], none)) : compL turn (xs.map enc) ρ none = .ok (xs.map g, none) := by
  rw [comp_enc enc (fun x => [g x]) k]
  congr 2
  clear k
  induction xs with
  | nil => rfl
  | cons x xs ih => simp [ih]
/-- the same, some of the things -/
theorem comp_some {α : Type} {turn : D → Env → R (List D × Option Env)} (enc : α → D) (p : α → Bool) (g : α → D) {ρ : Env} {xs : List α} (k : ∀ x ∈ xs, turn (enc x) ρ = .ok (if p x then [g x] else [], none)) : compL turn (xs.map enc) ρ none = .ok ((xs.filter p).map g, none) := by
  rw [comp_enc enc (fun x => if p x then [g x] else []) k]
  congr 2
  clear k
  induction xs with
  | nil => rfl
  | cons x xs ih => by_cases h : p x <;> simp [h, ih]
theorem rng_enc (n : Nat) : rngL 0 n = (List.range n).map fun j : Nat => D.int j := by simpa using rngL_eq 0 n
end Mq
namespace Mq
open Mp
@[scoped simp] theorem okR_nat (n : Nat) (h : n ≤ 1000000) : okR n = true := by
  rw [okR_eq]; unfold two62
  simp
  omega
@[scoped simp] theorem okR_small (n : Int) (h : -1000000 ≤ n) (h2 : n ≤ 1000000) : okR n = true := by
  rw [okR_eq]; unfold two62
  simp
  omega
@[scoped simp] theorem b2i_eq (b : Bool) : b2i b = if b then 1 else 0 := (rfl)
@[scoped simp] theorem le_line (n : Nat) : (n ≤ line) = (n ≤ 16777216) := by unfold line; rfl
@[scoped simp] theorem lt_line (n : Nat) : (n < line) = (n < 16777216) := by unfold line; rfl
end Mq
namespace Mq
open Mp
/-- a loop that follows a fold -/
theorem loop_foldR {α β : Type} {turn : D → Env → SR} (enc : α → D) (f : β → α → β) (P : β → Env → Prop) : ∀ (xs : List α) (b : β) (ρ : Env), P b ρ → (∀ b x ρ, x ∈ xs → P b ρ → ∃ ρ', turn (enc x) ρ = .nx ρ' ∧ P (f b x) ρ') → ∃ ρ', loopF turn (xs.map enc) ρ = .nx ρ' ∧ P (xs.foldl f b) ρ'
  | [], b, ρ, h, _ => ⟨ρ, rfl, h⟩
  | x :: xs, b, ρ, h, k => by
    obtain ⟨ρ1, e1, h1⟩ := k b x ρ (by simp) h
    obtain ⟨ρ2, e2, h2⟩ := loop_foldR enc f P xs (f b x) ρ1 h1 fun b y ρ hy h => k b y ρ (by simp [hy]) h
    refine ⟨ρ2, ?_, h2⟩
    simp only [List.map_cons]
    unfold loopF
    rw [e1]
    exact e2
@[scoped simp high] theorem bl_min2n (a b : Nat) : blD .min2 [.int (a : Int), .int (b : Int)] = some (.int ((min a b : Nat) : Int)) := by
  rw [bl_min2]; congr 2; split <;> omega
@[scoped simp high] theorem bl_max2n (a b : Nat) : blD .max2 [.int (a : Int), .int (b : Int)] = some (.int ((max a b : Nat) : Int)) := by
  rw [bl_max2]; congr 2; split <;> omega
/-- lists of natural numbers, of pairs -/
abbrev N (xs : List Nat) : List D := xs.map fun n : Nat => D.int n
abbrev en (e : Nat × Nat) : D := .tup [.int e.1, .int e.2]
abbrev Ed (es : List (Nat × Nat)) : List D := es.map en
theorem shL_N (xs : List Nat) : shL (N xs) = true := shL_map _ xs (by simp)
theorem shL_Ed (xs : List (Nat × Nat)) : shL (Ed xs) = true := shL_map _ xs (by simp)
@[scoped simp] theorem shL_mapsimp {α : Type} (f : α → D) (xs : List α) (h : ∀ x, sh (f x) = true) : shL (xs.map f) = true := shL_map f xs h
end Mq
namespace Mq
open Mp
@[scoped simp] theorem cast_inj2 (a b : Nat) : ((a : Int) = (b : Int)) = (a = b) := by apply propext; omega
@[scoped simp] theorem cast_lt2 (a b : Nat) : ((a : Int) < (b : Int)) = (a < b) := by apply propext; omega
@[scoped simp] theorem cast_le2 (a b : Nat) : ((a : Int) ≤ (b : Int)) = (a ≤ b) := by apply propext; omega
@[scoped simp] theorem cast_zero (a : Nat) : ((a : Int) = 0) = (a = 0) := by apply propext; omega
@[scoped simp] theorem cast_one (a : Nat) : ((a : Int) = 1) = (a = 1) := by apply propext; omega
@[scoped simp] theorem cast_neg0 (a : Nat) : ((a : Int) < 0) = False := by apply propext; constructor; omega; exact False.elim
@[scoped simp] theorem cast_nn (a : Nat) : (0 ≤ (a : Int)) = True := by apply propext; constructor; simp; omega
@[scoped simp] theorem cast_pos (a : Nat) : (0 < (a : Int)) = (0 < a) := by apply propext; omega
end Mq
namespace Mq
open Mp
@[scoped simp] theorem toInts_mapf {α : Type} (f : α → Int) : ∀ xs : List α, toInts (xs.map fun x => D.int (f x)) = some (xs.map f)
  | [] => rfl
  | x :: xs => by simp [toInts_mapf f xs]
theorem findD_N (k : Nat) : ∀ K : List Nat, findD (.int k) (N K) = if k ∈ K then some (K.idxOf k) else none
  | [] => rfl
  | y :: K => by
    have ih := findD_N k K
    simp only [N, List.map_cons, findD, eqD_int, cast_inj2] at ih ⊢
    by_cases h : y = k
    · subst h; simp
    · by_cases h2 : k ∈ K
      · simp [h, ih, h2, List.idxOf_cons, Ne.symm h, beq_eq_false_iff_ne.2 h]
      · simp [h, ih, h2, Ne.symm h]
theorem insI_commQ (x y : Int) : ∀ l : List Int, insI x (insI y l) = insI y (insI x l)
  | [] => by
    simp only [insI]
    by_cases h : x ≤ y <;> by_cases h2 : y ≤ x <;> simp [h, h2]
    · have : x = y := by omega
      subst this; simp
    · omega
  | z :: l => by
    have ih := insI_commQ x y l
    simp only [insI]
    by_cases h1 : x ≤ z <;> by_cases h2 : y ≤ z <;> simp only [h1, h2, if_true, if_false, insI, ih]
    · by_cases h : x ≤ y <;> by_cases h3 : y ≤ x <;> simp [h, h3]
      · have : x = y := by omega
        subst this; simp
      · omega
    · have h3 : ¬ y ≤ x := by omega
      simp [h3]
    · have h3 : ¬ x ≤ y := by omega
      simp [h3]
theorem sortI_permQ {xs ys : List Int} (h : xs.Perm ys) : sortI xs = sortI ys := by
  induction h with
  | nil => rfl
  | cons x _ ih => simp only [sortI, ih]
  | swap x y l => simp only [sortI]; exact insI_commQ _ _ _
  | trans _ _ a b => exact a.trans b
theorem mem_insI (x a : Int) : ∀ l : List Int, a ∈ insI x l ↔ a = x ∨ a ∈ l
  | [] => by simp [insI]
  | z :: l => by
    simp only [insI]
    split
    · simp
    · simp only [List.mem_cons, mem_insI x a l]
      constructor
      · rintro (h | h | h)
        · exact .inr (.inl h)
        · exact .inl h
        · exact .inr (.inr h)
      · rintro (h | h | h)
        · exact .inr (.inl h)
        · exact .inl h
        · exact .inr (.inr h)
theorem mem_sortI (a : Int) : ∀ l : List Int, a ∈ sortI l ↔ a ∈ l
  | [] => by simp [sortI]
  | x :: l => by simp [sortI, mem_insI, mem_sortI a l]
theorem mem_dedIQ (a : Int) : ∀ l : List Int, a ∈ dedI l ↔ a ∈ l
  | [] => by simp [dedI]
  | x :: l => by
    simp only [dedI]
    split
    · rename_i h
      rw [mem_dedIQ a l]
      simp only [List.mem_cons]
      constructor
      · exact .inr
      · rintro (rfl | h2)
        · simpa using h
        · exact h2
    · simp [mem_dedIQ a l]
theorem nodup_dedIQ : ∀ l : List Int, (dedI l).Nodup
  | [] => by simp [dedI]
  | x :: l => by
    simp only [dedI]
    split
    · exact nodup_dedIQ l
    · rename_i h
      refine List.nodup_cons.2 ⟨?_, nodup_dedIQ l⟩
      rw [mem_dedIQ]
      simpa using h
theorem perm_of {xs ys : List Int} (hx : xs.Nodup) (hy : ys.Nodup) (h : ∀ a, a ∈ xs ↔ a ∈ ys) : xs.Perm ys := (List.perm_ext_iff_of_nodup hx hy).2 h
theorem nodup_cast {K : List Nat} (h : K.Nodup) : (K.map fun n : Nat => (n : Int)).Nodup := by
  refine List.Pairwise.map _ ?_ h
  intro a b hab
  simpa using hab
theorem mem_cast (a : Int) (K : List Nat) : (a ∈ K.map fun n : Nat => (n : Int)) ↔ ∃ k ∈ K, a = k := by
  simp only [List.mem_map]
  constructor
  · rintro ⟨k, h, rfl⟩; exact ⟨k, h, rfl⟩
  · rintro ⟨k, h, rfl⟩; exact ⟨k, h, rfl⟩
theorem set_idx {α : Type} (f : Nat → α) (v : α) (k : Nat) : ∀ (K : List Nat), K.Nodup → (K.map f).set (K.idxOf k) v = K.map fun x => if x = k then v else f x
  | [], _ => by simp
  | y :: K, h => by
    have hy := List.nodup_cons.1 h
    by_cases e : y = k
    · subst e
      simp only [List.map_cons, List.idxOf_cons_self, List.set_cons_zero, if_true]
      congr 1
      apply List.map_congr_left
      intro x hx
      have : x ≠ y := fun z => hy.1 (z ▸ hx)
      simp [this]
    · have e2 : (y == k) = false := by simpa using e
      simp only [List.map_cons, List.idxOf_cons, e2, cond_false, List.set_cons_succ, set_idx f v k K hy.2, e, if_false]
end Mq
namespace Mq
open Mp
/-- a comprehension, one thing a turn, whose turns keep P of the slots -/
theorem comp_mapS {α : Type} {turn : D → Env → R (List D × Option Env)} (enc : α → D) (g : α → D) (P : Env → Prop) {ρ : Env} : ∀ {xs : List α} {o : Option Env}, P (now ρ o) → (∀ x ∈ xs, ∀ r, P r → ∃ o1, turn (enc x) r = .ok ([g x], o1) ∧ P (now r o1)) → ∃ o', compL turn (xs.map enc) ρ o = .ok (xs.map g, o') ∧ P (now ρ o')
  | [], o, h, _ => ⟨o, rfl, h⟩
  | x :: xs, o, h, k => by
    obtain ⟨o1, e1, h1⟩ := k x (by simp) _ h
    have e2 : now ρ (orE o1 o) = now (now ρ o) o1 := by cases o1 <;> rfl
    obtain ⟨o', e, h2⟩ := comp_mapS enc g P (ρ := ρ) (xs := xs) (o := orE o1 o) (by rw [e2]; exact h1) fun y hy r hr => k y (by simp [hy]) r hr
    refine ⟨o', ?_, h2⟩
    simp only [List.map_cons]
    unfold compL
    rw [e1]
    simp only [R.calm, R.bind]
    rw [e]
    rfl
theorem map_set_get {α β : Type} (f : α → β) (xs : List α) (i : Nat) (h : i < xs.length) : (xs.map f).set i (f xs[i]) = xs.map f := by
  apply List.ext_getElem?
  intro j
  by_cases e : i = j
  · subst e; simp [h]
  · simp [List.getElem?_set, e]
end Mq
namespace Mq
open Mp
theorem insI_len (x : Int) : ∀ l : List Int, (insI x l).length = l.length + 1
  | [] => rfl
  | y :: l => by
    simp only [insI]
    split
    · rfl
    · simp [insI_len x l]
theorem sort_len : ∀ l : List Int, (sortI l).length = l.length
  | [] => rfl
  | x :: l => by simp [sortI, insI_len, sort_len l]
end Mq
namespace Mq
open Mp
@[scoped simp] theorem fzL_mapsimp {α : Type} (f : α → D) (xs : List α) (h : ∀ x, sh (f x) = true) : fzL (xs.map f) = xs.map f := fzL_map f xs h
@[scoped simp] theorem fzableL_mapsimp {α : Type} (f : α → D) (xs : List α) (h : ∀ x, sh (f x) = true) : fzableL (xs.map f) = true := fzableL_of_sh _ (shL_map f xs h)
/-- a loop that raises in its last turn -/
theorem loop_exc {α : Type} {turn : D → Env → SR} (enc : α → D) (P : Env → Prop) (bad : D) (c : Nat) (d : D) : ∀ (xs : List α) (ys : List D) (ρ : Env), P ρ → (∀ x ρ, x ∈ xs → P ρ → ∃ ρ', turn (enc x) ρ = .nx ρ' ∧ P ρ') → (∀ ρ, P ρ → ∃ ρ', turn bad ρ = .exc c d ρ') → ∃ ρ', loopF turn (xs.map enc ++ bad :: ys) ρ = .exc c d ρ'
  | [], ys, ρ, h, _, kb => by
    obtain ⟨ρ', e⟩ := kb ρ h
    refine ⟨ρ', ?_⟩
    simp only [List.map_nil, List.nil_append]
    unfold loopF
    rw [e]
  | x :: xs, ys, ρ, h, k, kb => by
    obtain ⟨ρ1, e1, h1⟩ := k x ρ (by simp) h
    obtain ⟨ρ2, e2⟩ := loop_exc enc P bad c d xs ys ρ1 h1 (fun y ρ hy h => k y ρ (by simp [hy]) h) kb
    refine ⟨ρ2, ?_⟩
    simp only [List.map_cons, List.cons_append]
    unfold loopF
    rw [e1]
    exact e2
/-- a loop whose turns go through -/
theorem loop_keep {α : Type} {turn : D → Env → SR} (enc : α → D) (P : Env → Prop) (xs : List α) (ρ : Env) (h : P ρ) (k : ∀ x ρ, x ∈ xs → P ρ → ∃ ρ', turn (enc x) ρ = .nx ρ' ∧ P ρ') : ∃ ρ', loopF turn (xs.map enc) ρ = .nx ρ' ∧ P ρ' := by
  obtain ⟨ρ', e, h'⟩ := loop_foldR enc (fun (_ : Unit) (_ : α) => ()) (fun _ ρ => P ρ) xs () ρ h fun _ x ρ hx h => k x ρ hx h
  exact ⟨ρ', e, h'⟩
end Mq
namespace Mq
open Mp
@[scoped simp] theorem getElem_castmap (xs : List Nat) (n : Nat) (h : n < xs.length) : (N xs)[n]? = some (.int xs[n]) := by simp [h]
/-- make freezes what is made -/
theorem min1_pair (a b : Nat) : minI a [(b : Int)] = ((min a b : Nat) : Int) := by
  simp only [minI]
  split <;> omega
theorem max1_pair (a b : Nat) : maxI a [(b : Int)] = ((max a b : Nat) : Int) := by
  simp only [maxI]
  split <;> omega
end Mq
namespace Mq
open Mp
@[scoped simp] theorem shL_take (n : Nat) (xs : List D) (h : shL xs = true) : shL (xs.take n) = true := by
  have e : shL (xs.take n ++ xs.drop n) = true := by rw [List.take_append_drop]; exact h
  rw [shL_app] at e
  simp at e
  exact e.1
@[scoped simp] theorem shL_drop (n : Nat) (xs : List D) (h : shL xs = true) : shL (xs.drop n) = true := by
  have e : shL (xs.take n ++ xs.drop n) = true := by rw [List.take_append_drop]; exact h
  rw [shL_app] at e
  simp at e
  exact e.2
end Mq
namespace Mq
open Mp
@[scoped simp] theorem fzL_app (xs ys : List D) : fzL (xs ++ ys) = fzL xs ++ fzL ys := by simp [fz_shL]
@[scoped simp] theorem fzableL_app : ∀ xs ys : List D, fzableL (xs ++ ys) = (fzableL xs && fzableL ys)
  | [], ys => by simp
  | x :: xs, ys => by simp [fzableL_app xs ys, Bool.and_assoc]
@[scoped simp] theorem fzL_take {α : Type} (f : α → D) (n : Nat) (xs : List α) (h : ∀ x, sh (f x) = true) : fzL ((xs.map f).take n) = (xs.map f).take n := fzL_of_sh _ (shL_take _ _ (shL_map f xs h))
@[scoped simp] theorem fzL_drop {α : Type} (f : α → D) (n : Nat) (xs : List α) (h : ∀ x, sh (f x) = true) : fzL ((xs.map f).drop n) = (xs.map f).drop n := fzL_of_sh _ (shL_drop _ _ (shL_map f xs h))
@[scoped simp] theorem fzableL_take {α : Type} (f : α → D) (n : Nat) (xs : List α) (h : ∀ x, sh (f x) = true) : fzableL ((xs.map f).take n) = true := fzableL_of_sh _ (shL_take _ _ (shL_map f xs h))
@[scoped simp] theorem fzableL_drop {α : Type} (f : α → D) (n : Nat) (xs : List α) (h : ∀ x, sh (f x) = true) : fzableL ((xs.map f).drop n) = true := fzableL_of_sh _ (shL_drop _ _ (shL_map f xs h))
end Mq
namespace Mq
open Mp
/-- a loop over encoded things, by what holds behind i of them -/
theorem loop_pre {α : Type} {turn : D → Env → SR} (enc : α → D) (P : Nat → Env → Prop) (xs : List α) {ρ : Env} (h : P 0 ρ) (k : ∀ i (hi : i < xs.length) ρ, P i ρ → ∃ ρ', turn (enc xs[i]) ρ = .nx ρ' ∧ P (i + 1) ρ') : ∃ ρ', loopF turn (xs.map enc) ρ = .nx ρ' ∧ P xs.length ρ' := by
  obtain ⟨ρ', e, h'⟩ := loop_inv (turn := turn) P (xs := xs.map enc) 0 h fun j x r hx hP => by
    have hj : j < xs.length := by
      have := (List.getElem?_eq_some_iff.1 hx).1
      simpa using this
    simp [hj] at hx
    subst hx
    obtain ⟨ρ', e, h'⟩ := k j hj r (by simpa using hP)
    exact ⟨ρ', e, by simpa using h'⟩
  exact ⟨ρ', e, by simpa using h'⟩
end Mq
namespace k66
open Mp Mq
theorem take1 (xs : List Int) (x many : Int) (h : many ≠ 0) : m_l_law_take [.lst true ((xs ++ [x]).map D.int), .int many] = .ok (.int (x.fmod many)) [.lst true (xs.map D.int), .int many] := by
  have h1 : ¬ ((xs.length : Int) + 1 = 0) := by omega
  simp [m_l_law_take, b_l_law_take, dF, small64_eq, h, h1]
theorem take0 (many : Int) : m_l_law_take [.lst true [], .int many] = .ok (.int 0) [.lst true [], .int many] := by
  simp [m_l_law_take, b_l_law_take, dF, small64_eq]
/-- the deck: whole numbers -/
abbrev L (xs : List Int) : D := .lst true (xs.map D.int)
theorem take_ok (xs : List Int) (many : Nat) (h : 0 < many) : ∃ xs' : List Int, ∃ r : Nat, r < many ∧ m_l_law_take [L xs, .int many] = .ok (.int r) [L xs', .int many] := by
  rcases List.eq_nil_or_concat xs with rfl | ⟨ys, y, rfl⟩
  · exact ⟨[], 0, h, take0 many⟩
  · have h1 := Int.fmod_nonneg_of_pos y (show (0 : Int) < many by omega)
    have h2 := Int.fmod_lt_of_pos y (show (0 : Int) < many by omega)
    refine ⟨ys, (y.fmod many).toNat, by omega, ?_⟩
    rw [List.concat_eq_append, take1 ys y many (by omega), Int.toNat_of_nonneg h1]
theorem ink (i k : Int) (h : 0 ≤ i) (h2 : i < k) : ∃ n : Nat, (n : Int) < k ∧ i = n := ⟨i.toNat, by omega, by omega⟩
theorem lx1 (ns d : List Int) (s k c r a : Int) (hd : d.length < 16777216) : dSs c_l_law_deck lx_l_law_deck_1 [.scr ns, .int 40, .int 14, L d, .int s, .int k, .int c, .int r, .int a] = .nx [.scr ns, .int 40, .int 14, L (d ++ [r.fmod 1000003]), .int s, .int k, .int c, .int (r.fdiv 1000003), .int a] := by
  simp [lx_l_law_deck_1, dF, small64_eq, hd]
theorem lx2 (ns d : List Int) (s k c r a : Int) (hd : d.length < 16777216) : ∃ s' v, dSs c_l_law_deck lx_l_law_deck_2 [.scr ns, .int 40, .int 14, L d, .int s, .int k, .int c, .int r, .int a] = .nx [.scr ns, .int 40, .int 14, L (d ++ [v]), .int s', .int k, .int c, .int r, .int a] := by
  simp [lx_l_law_deck_2, dF, small64_eq, hd]
theorem setlen {ρ : Env} {i : Nat} {x : D} : (ρ.set i x).length = ρ.length := by simp
/-- the inner loops -/
theorem in1 (ns d : List Int) (s k c r : Int) (a0 : D) (hd : d.length + 14 < 16777216) : ∃ d' r' a, d'.length = d.length + 14 ∧ loopF (turnF c_l_law_deck (.var 8) lx_l_law_deck_1) (rngL 0 14) [.scr ns, .int 40, .int 14, L d, .int s, .int k, .int c, .int r, a0] = .nx [.scr ns, .int 40, .int 14, L d', .int s, .int k, .int c, .int r', a] := by
  obtain ⟨ρ, e, d', r', a, h1, h2⟩ := loop_rng (turn := turnF c_l_law_deck (.var 8) lx_l_law_deck_1) (fun j ρ => ∃ d' r' a, d'.length = d.length + j ∧ ρ = [.scr ns, .int 40, .int 14, L d', .int s, .int k, .int c, .int r', a]) 14 ⟨d, r, a0, rfl, rfl⟩ (by
    rintro j _ hj ⟨d', r', a, h, rfl⟩
    refine ⟨_, ?_, d' ++ [r'.fmod 1000003], r'.fdiv 1000003, .int j, ?_, rfl⟩
    · rw [turnF_var]
      simpa using lx1 ns d' s k c r' j (by omega)
    · simp; omega)
  exact ⟨d', r', a, h1, by rw [e, h2]⟩
theorem in2 (ns d : List Int) (s k c r : Int) (a0 : D) (hd : d.length + 14 < 16777216) : ∃ d' s' a, d'.length = d.length + 14 ∧ loopF (turnF c_l_law_deck (.var 8) lx_l_law_deck_2) (rngL 0 14) [.scr ns, .int 40, .int 14, L d, .int s, .int k, .int c, .int r, a0] = .nx [.scr ns, .int 40, .int 14, L d', .int s', .int k, .int c, .int r, a] := by
  obtain ⟨ρ, e, d', r', a, h1, h2⟩ := loop_rng (turn := turnF c_l_law_deck (.var 8) lx_l_law_deck_2) (fun j ρ => ∃ d' s' a, d'.length = d.length + j ∧ ρ = [.scr ns, .int 40, .int 14, L d', .int s', .int k, .int c, .int r, a]) 14 ⟨d, s, a0, rfl, rfl⟩ (by
    rintro j _ hj ⟨d', r', a, h, rfl⟩
    obtain ⟨s', v, e⟩ := lx2 ns d' r' k c r j (by omega)
    refine ⟨_, ?_, d' ++ [v], s', .int j, ?_, rfl⟩
    · rw [turnF_var]
      simpa using e
    · simp; omega)
  exact ⟨d', r', a, h1, by rw [e, h2]⟩
theorem lx3 (ns d : List Int) (s : Int) (k : Nat) (c r a : D) (hd : d.length + 14 < 16777216) : ∃ d' s' c' r' a', d'.length = d.length + 14 ∧ dSs c_l_law_deck lx_l_law_deck_3 [.scr ns, .int 40, .int 14, L d, .int s, .int k, c, r, a] = .nx [.scr ns, .int 40, .int 14, L d', .int s', .int k, .int c', .int r', a'] := by
  have key : ∀ c' : Int, ∃ d' s' r' a', d'.length = d.length + 14 ∧ dSs c_l_law_deck (match lx_l_law_deck_3 with | .cons _ (.cons _ x) => x | _ => .nil) [.scr ns, .int 40, .int 14, L d, .int s, .int k, .int c', r, a] = .nx [.scr ns, .int 40, .int 14, L d', .int s', .int k, .int c', .int r', a'] := by
    intro c'
    by_cases hb : (1000000000000000000000000000000 : Int) ≤ (if c' < 0 then -c' else c')
    · obtain ⟨d', r', a', h1, h2⟩ := in1 ns d s k c' (if c' < 0 then -c' else c') a hd
      exact ⟨d', s, r', a', h1, by simp [lx_l_law_deck_3, dF, small64_eq, hb, h2]⟩
    · obtain ⟨d', r', a', h1, h2⟩ := in2 ns d (Int.fmod (s * 48271 + 2 * (if c' < 0 then -c' else c') + (if c' < 0 then 1 else 0) + k) 2147483647) k c' (if c' < 0 then -c' else c') a hd
      exact ⟨d', r', (if c' < 0 then -c' else c'), a', h1, by simp [lx_l_law_deck_3, dF, small64_eq, hb, h2]⟩
  by_cases hk : k < ns.length
  · obtain ⟨d', s', r', a', h, e⟩ := key ns[k]
    refine ⟨d', s', ns[k], r', a', h, ?_⟩
    rw [← e]
    simp [lx_l_law_deck_3, hk]
  · obtain ⟨d', s', r', a', h, e⟩ := key 0
    refine ⟨d', s', 0, r', a', h, ?_⟩
    rw [← e]
    simp [lx_l_law_deck_3, hk]
theorem deck_ok (ns : List Int) : ∃ xs outs, m_l_law_deck [.scr ns, .int 40, .int 14] = .ok (L xs) outs := by
  obtain ⟨ρ, e, d', s', a, c, r, h1, h2⟩ := loop_rng (turn := turnF c_l_law_deck (.var 5) lx_l_law_deck_3) (ρ := [.scr ns, .int 40, .int 14, L [], .int (7 + ns.length), .gone, .gone, .gone, .gone]) (fun j ρ => ∃ d' s' k c r a, d'.length = 14 * j ∧ ρ = [.scr ns, .int 40, .int 14, L d', .int s', k, c, r, a]) 40 ⟨[], _, _, _, _, _, rfl, rfl⟩ (by
    rintro j _ hj ⟨d', s', k, c, r, a, h, rfl⟩
    obtain ⟨d2, s2, c2, r2, a2, h2, e⟩ := lx3 ns d' s' j c r a (by omega)
    refine ⟨_, ?_, d2, s2, .int j, .int c2, .int r2, a2, by omega, rfl⟩
    rw [turnF_var]
    simpa using e)
  obtain ⟨a2, h1, rfl⟩ := h2
  simp only [L, List.map_nil] at e
  exact ⟨d'.reverse, _, by simp [m_l_law_deck, b_l_law_deck, dF, small64_eq, e]; rfl⟩
end k66
namespace k66
open Mp Mq
abbrev N (xs : List Nat) : List D := xs.map fun n : Nat => D.int n
abbrev en (e : Nat × Nat) : D := .tup [.int e.1, .int e.2]
abbrev Ed (es : List (Nat × Nat)) : List D := es.map en
def inR (v : Nat) (es : List (Nat × Nat)) : Prop := ∀ e ∈ es, e.1 < v ∧ e.2 < v
theorem edges_ok (xs : List Int) (v most : Nat) (hv : 0 < v) (hm : most < 1000) : ∃ es xs', m_l_law_edges [L xs, .int v, .int most] = .ok (.lst true (Ed es)) [L xs', .int v, .int most] ∧ es.length ≤ most ∧ inR v es := by
  obtain ⟨xs1, r, hr, e1⟩ := take_ok xs (most + 1) (by omega)
  rw [show ((most + 1 : Nat) : Int) = (most : Int) + 1 by simp] at e1
  obtain ⟨ys, o', e, xs', es, h1, h2, h3, h4⟩ := comp_rng (turn := turnC c_l_law_edges (.var 3) [3] .nil ex_l_law_edges_1) (ρ := [L xs1, .int v, .int most, .gone]) (fun j ρ acc => ∃ xs' es, ρ = [L xs', .int v, .int most, .gone] ∧ acc = Ed es ∧ es.length = j ∧ inR v es) r ⟨xs1, [], rfl, rfl, rfl, by simp [inR]⟩ (by
    rintro j _ _ hj ⟨xs', es, rfl, rfl, h3, h4⟩
    obtain ⟨x2, a, ha, ea⟩ := take_ok xs' v hv
    obtain ⟨x3, b, hb, eb⟩ := take_ok x2 v hv
    refine ⟨[en (a, b)], some [L x3, .int v, .int most, .gone], ?_, x3, es ++ [(a, b)], rfl, by simp, by simp [h3], ?_⟩
    · simp [turnC_var, ex_l_law_edges_1, ea, eb, dF, small64_eq]
    · intro e he
      rcases List.mem_append.1 he with h | h
      · exact h4 e h
      · simp at h; simp [h, ha, hb])
  refine ⟨es, xs', ?_, by omega, h4⟩
  have hl : es.length ≤ 16777216 := by omega
  have hr3 : okR (r : Int) = true := okR_nat r (by omega)
  have hr2 : ((r : Int) ≤ 1000) := by omega
  rw [h2] at e

  cases o' with
  | none =>
    simp at h1
    simp [m_l_law_edges, b_l_law_edges, dF, small64_eq, e1, hr3, e, hl, h1]
  | some r =>
    simp at h1
    simp [m_l_law_edges, b_l_law_edges, dF, small64_eq, e1, hr3, e, hl, h1]
end k66
namespace k66
open Mp Mq
def step (ns : List Nat) (e : Nat × Nat) : List Nat := ns.map fun x => if x = max (ns.getD e.1 0) (ns.getD e.2 0) then min (ns.getD e.1 0) (ns.getD e.2 0) else x
def names (v : Nat) (es : List (Nat × Nat)) : List Nat := es.foldl step (List.range v)
theorem step_len (ns e) : (step ns e).length = ns.length := by simp [step]
theorem lnames (v : Nat) (o : Bool) (es : List (Nat × Nat)) (hv : v ≤ 1000) (h : inR v es) : m_l_law_names [.int v, .lst o (Ed es)] = .ok (.lst true (N (names v es))) [.int v, .lst o (Ed es)] := by
  obtain ⟨ρ, e, h1, h2⟩ := loop_foldR (turn := turnF c_l_law_names (.tup (.cons (.var 3) (.cons (.var 4) .nil))) lx_l_law_names_2) en step (fun ns ρ => ns.length = v ∧ ∃ a b c d, ρ = [.int v, .gone, .lst true (N ns), a, b, c, d, .gone]) es (List.range v) [.int v, .gone, .lst true (N (List.range v)), .gone, .gone, .gone, .gone, .gone] ⟨by simp, _, _, _, _, rfl⟩ (by
    rintro ns ⟨a, b⟩ _ hx ⟨hl, x3, x4, x5, x6, rfl⟩
    obtain ⟨ha, hb⟩ := h _ hx
    rw [← hl] at ha hb
    simp only at ha hb
    refine ⟨_, ?_, by rw [step_len]; exact hl, .int a, .int b, .int ((min ns[a] ns[b] : Nat) : Int), .int ((max ns[a] ns[b] : Nat) : Int), rfl⟩
    rw [en, turnF_two]
    have hc := comp_one (turn := turnC c_l_law_names (.var 7) [7] .nil ex_l_law_names_1) (fun n : Nat => D.int n) (fun n => .int ((if n = max ns[a] ns[b] then min ns[a] ns[b] else n : Nat) : Int)) (xs := ns) (ρ := [.int v, .gone, .gone, .int a, .int b, .int ((min ns[a] ns[b] : Nat) : Int), .int ((max ns[a] ns[b] : Nat) : Int), .gone]) (by
      intro x _
      by_cases hxg : x = max ns[a] ns[b]
      · simp [turnC_var, ex_l_law_names_1, hxg]
      · simp [turnC_var, ex_l_law_names_1, hxg])
    have hl2 : ns.length ≤ 16777216 := by omega
    simp [lx_l_law_names_2, ha, hb, hc, hl2, step])
  obtain ⟨a, b, c, d, rfl⟩ := h2
  have hr : okR (v : Int) = true := okR_nat v (by omega)
  have hv2 : v ≤ 16777216 := by omega
  simp only [rng_enc, N] at e
  simp [m_l_law_names, b_l_law_names, dF, small64_eq, hr, hv2, rng_enc, e, names]
end k66
namespace k66
open Mp Mq
theorem merged_ok (ns : List Nat) (a b : Nat) (hn : ns.length ≤ 1000) (ha : a < ns.length) (hb : b < ns.length) : m_merged [.lst true (N ns), .int a, .int b] = .ok .non [.lst true (N (step ns (a, b))), .int a, .int b] := by
  have hl : ns[a]? = some ns[a] := by simp [ha]
  by_cases hlt : min ns[a] ns[b] < max ns[a] ns[b]
  · obtain ⟨ρ, e, ms, x, h1, h2, h3⟩ := loop_rng (turn := turnF c_merged (.var 5) lx_merged_1) (ρ := [.lst true (N ns), .int a, .int b, .int ((min ns[a] ns[b] : Nat) : Int), .int ((max ns[a] ns[b] : Nat) : Int), .gone]) (fun i ρ => ∃ (ms : List Nat) (x : D), ms.length = ns.length ∧ (∀ j, ms[j]? = (ns[j]?).map fun y => if j < i ∧ y = max ns[a] ns[b] then min ns[a] ns[b] else y) ∧ ρ = [.lst true (N ms), .int a, .int b, .int ((min ns[a] ns[b] : Nat) : Int), .int ((max ns[a] ns[b] : Nat) : Int), x]) ns.length ⟨ns, .gone, rfl, by simp, rfl⟩ (by
      rintro i _ hi ⟨ms, x, h1, h2, rfl⟩
      have hi2 : i < ms.length := by omega
      have hg : ms[i] = ns[i] := by
        have := h2 i
        simpa [hi, hi2] using this
      by_cases hy : ns[i] = max ns[a] ns[b]
      · refine ⟨_, ?_, ms.set i (min ns[a] ns[b]), .int i, by simp [h1], ?_, rfl⟩
        · rw [turnF_var]
          simp [lx_merged_1, hi2, hg, hy, storeI, putD, List.map_set]
        · intro j
          by_cases hj : i = j
          · subst hj
            simp [hi2, hi, hy]
          · simp only [List.getElem?_set, hj, if_false, h2 j]
            congr 1
            funext y
            have : (j < i + 1) = (j < i) := by apply propext; omega
            simp [this]
      · refine ⟨_, ?_, ms, .int i, h1, ?_, rfl⟩
        · rw [turnF_var]
          simp [lx_merged_1, hi2, hg, hy]
        · intro j
          rw [h2 j]
          by_cases hj : i = j
          · subst hj
            simp [hi, hy]
          · congr 1
            funext y
            have : (j < i + 1) = (j < i) := by apply propext; omega
            simp [this])
    subst h3
    have hs : ms = step ns (a, b) := by
      apply List.ext_getElem?
      intro j
      rw [h2 j]
      by_cases hj : j < ns.length
      · simp [step, hj, ha, hb]
      · simp [step, List.getElem?_eq_none (Nat.le_of_not_lt hj)]
    rw [hs] at e
    have hr : okR (ns.length : Int) = true := okR_nat _ (by omega)
    simp [m_merged, b_merged, dF, small64_eq, ha, hb, hlt, hr, e]
  · have hs : step ns (a, b) = ns := by
      simp only [step]
      conv => rhs; rw [← List.map_id ns]
      apply List.map_congr_left
      intro x _
      simp [ha, hb]
      omega
    rw [hs]
    simp [m_merged, b_merged, dF, small64_eq, ha, hb, hlt]
theorem groups_ok (v : Nat) (es : List (Nat × Nat)) (hv : v ≤ 1000) (h : inR v es) : m_groups [.int v, .tup (Ed es)] = .ok (.lst true (N (names v es))) [.int v, .tup (Ed es)] := by
  obtain ⟨ρ, e, h1, h2⟩ := loop_foldR (turn := turnF c_groups (.tup (.cons (.var 3) (.cons (.var 4) .nil))) lx_groups_1) en step (fun ns ρ => ns.length = v ∧ ∃ a b, ρ = [.int v, .gone, .lst true (N ns), a, b]) es (List.range v) [.int v, .gone, .lst true (N (List.range v)), .gone, .gone] ⟨by simp, _, _, rfl⟩ (by
    rintro ns ⟨a, b⟩ _ hx ⟨hl, x3, x4, rfl⟩
    obtain ⟨ha, hb⟩ := h _ hx
    rw [← hl] at ha hb
    simp only at ha hb
    refine ⟨_, ?_, by rw [step_len]; exact hl, .int a, .int b, rfl⟩
    rw [en, turnF_two]
    have := merged_ok ns a b (by omega) ha hb
    simp [lx_groups_1, this])
  obtain ⟨a, b, rfl⟩ := h2
  have hr : okR (v : Int) = true := okR_nat v (by omega)
  have hv2 : v ≤ 16777216 := by omega
  simp only [rng_enc, N] at e
  simp [m_groups, b_groups, dF, small64_eq, hr, hv2, rng_enc, e, names]
end k66
namespace k66
open Mp Mq
theorem groups_ok2 (v : Nat) (o : Bool) (es : List (Nat × Nat)) (hv : v ≤ 1000) (h : inR v es) : m_groups [.int v, .lst o (Ed es)] = .ok (.lst true (N (names v es))) [.int v, .lst o (Ed es)] := by
  obtain ⟨ρ, e, h1, h2⟩ := loop_foldR (turn := turnF c_groups (.tup (.cons (.var 3) (.cons (.var 4) .nil))) lx_groups_1) en step (fun ns ρ => ns.length = v ∧ ∃ a b, ρ = [.int v, .gone, .lst true (N ns), a, b]) es (List.range v) [.int v, .gone, .lst true (N (List.range v)), .gone, .gone] ⟨by simp, _, _, rfl⟩ (by
    rintro ns ⟨a, b⟩ _ hx ⟨hl, x3, x4, rfl⟩
    obtain ⟨ha, hb⟩ := h _ hx
    rw [← hl] at ha hb
    simp only at ha hb
    refine ⟨_, ?_, by rw [step_len]; exact hl, .int a, .int b, rfl⟩
    rw [en, turnF_two]
    have := merged_ok ns a b (by omega) ha hb
    simp [lx_groups_1, this])
  obtain ⟨a, b, rfl⟩ := h2
  have hr : okR (v : Int) = true := okR_nat v (by omega)
  have hv2 : v ≤ 16777216 := by omega
  simp only [rng_enc, N] at e
  simp [m_groups, b_groups, dF, small64_eq, hr, hv2, rng_enc, e, names]
/-- what stands of the names: in range, and a name's name is itself -/
def Nok (v : Nat) (ns : List Nat) : Prop := ns.length = v ∧ ∀ i (h : i < ns.length), ∃ h2 : ns[i] < ns.length, ns[ns[i]] = ns[i]
theorem step_ok {v : Nat} {ns : List Nat} {a b : Nat} (h : Nok v ns) (ha : a < v) (hb : b < v) : Nok v (step ns (a, b)) := by
  obtain ⟨hl, hi⟩ := h
  subst hl
  refine ⟨step_len _ _, fun i hi2 => ?_⟩
  rw [step_len] at hi2
  obtain ⟨ra, ea⟩ := hi a ha
  obtain ⟨rb, eb⟩ := hi b hb
  obtain ⟨ri, ei⟩ := hi i hi2
  have hm : min ns[a] ns[b] < ns.length := by omega
  have em : ns[min ns[a] ns[b]] = min ns[a] ns[b] := by
    rcases Nat.le_total ns[a] ns[b] with q | q
    · simp only [Nat.min_eq_left q]; exact ea
    · simp only [Nat.min_eq_right q]; exact eb
  by_cases hy : ns[i] = max ns[a] ns[b]
  · have e1 : (step ns (a, b))[i]'(by rw [step_len]; exact hi2) = min ns[a] ns[b] := by
      simp [step, ha, hb, hy]
    refine ⟨by rw [e1, step_len]; exact hm, ?_⟩
    simp only [e1]
    simp [step, ha, hb, em]
  · have e1 : (step ns (a, b))[i]'(by rw [step_len]; exact hi2) = ns[i] := by
      simp [step, ha, hb, hy]
    refine ⟨by rw [e1, step_len]; exact ri, ?_⟩
    simp only [e1]
    simp [step, ha, hb, ei, hy]
theorem names_ok (v : Nat) (es : List (Nat × Nat)) (h : inR v es) : Nok v (names v es) := by
  unfold names
  have : ∀ (es : List (Nat × Nat)) (ns : List Nat), inR v es → Nok v ns → Nok v (es.foldl step ns) := by
    intro es
    induction es with
    | nil => intro ns _ h; exact h
    | cons e es ih =>
      intro ns hr h
      exact ih _ (fun x hx => hr x (by simp [hx])) (step_ok h (hr e (by simp)).1 (hr e (by simp)).2)
  refine this es _ h ⟨by simp, fun i hi => ?_⟩
  simp at hi
  exact ⟨by simp [hi], by simp⟩
theorem names_len (v es) (h : inR v es) : (names v es).length = v := (names_ok v es h).1
/-- the rank by fixed names is the rank by distinct names -/
theorem rank_eq (v : Nat) (es : List (Nat × Nat)) (h : inR v es) : ((List.range v).filter fun i => decide ((names v es).getD i 0 = i)).length = (dedI ((names v es).map fun n : Nat => (n : Int))).length := by
  obtain ⟨hl, hi⟩ := names_ok v es h
  have hp : (((List.range v).filter fun i => decide ((names v es).getD i 0 = i)).map fun n : Nat => (n : Int)).Perm (dedI ((names v es).map fun n : Nat => (n : Int))) := by
    refine perm_of (nodup_cast (List.Pairwise.filter _ List.nodup_range)) (nodup_dedIQ _) fun a => ?_
    rw [mem_cast, mem_dedIQ, mem_cast]
    constructor
    · rintro ⟨k, hk, rfl⟩
      simp only [List.mem_filter, List.mem_range, decide_eq_true_eq] at hk
      have hk2 : k < (names v es).length := by omega
      refine ⟨k, ?_, rfl⟩
      have := hk.2
      simp [hk2] at this
      rw [← this]
      exact List.getElem_mem _
    · rintro ⟨k, hk, rfl⟩
      obtain ⟨i, hi2, rfl⟩ := List.getElem_of_mem hk
      obtain ⟨q, e⟩ := hi i hi2
      refine ⟨_, ?_, rfl⟩
      simp only [List.mem_filter, List.mem_range, decide_eq_true_eq]
      exact ⟨by omega, by simp [q, e]⟩
  have := hp.length_eq
  simpa using this
abbrev G (v : Nat) (es : List (Nat × Nat)) : D := .ins false 0 [0, 1] [.int v, .tup (Ed es)]
def deg (es : List (Nat × Nat)) (a : Nat) : Int := (es.map fun e => (if e.1 = a then (1 : Int) else 0) + if e.2 = a then 1 else 0).sum
theorem degree_ok (v : Nat) (es : List (Nat × Nat)) (a : Nat) (ha : a < v) (hl : es.length ≤ 1000) : m_Graph_degree [G v es, .int a] = .ok (.int (deg es a)) [G v es, .int a] := by
  have hc := comp_one (turn := turnC c_Graph_degree (.tup (.cons (.var 2) (.cons (.var 3) .nil))) [2, 3] .nil ex_Graph_degree_1) en (fun e => .int ((if e.1 = a then (1 : Int) else 0) + if e.2 = a then 1 else 0)) (xs := es) (ρ := [G v es, .int a, .gone, .gone]) (by
    rintro ⟨x, y⟩ _
    rw [en, turnC_two]
    simp [ex_Graph_degree_1])
  have hl2 : es.length ≤ 16777216 := by omega
  simp only [G, Ed] at hc
  simp [m_Graph_degree, b_Graph_degree, dF, small64_eq, ha, hc, hl2, deg]
@[simp] theorem sl_vertex : (PySem.Str.ofString "vertex").length = 6 := by decide
@[simp] theorem sl_vertices : (PySem.Str.ofString "vertices").length = 8 := by decide
@[simp] theorem sl_edges : (PySem.Str.ofString "edges").length = 5 := by decide
@[simp] theorem sl_edge : (PySem.Str.ofString "edge").length = 4 := by decide
theorem degree_no (v : Nat) (es : List (Nat × Nat)) (a : Nat) (ha : v ≤ a) : m_Graph_degree [G v es, .int a] = .exc 1 (.str "vertex") := by
  have : ¬ a < v := by omega
  simp [m_Graph_degree, b_Graph_degree, dF, small64_eq, this]
end k66
namespace k66
open Mp Mq
/-- the distinct names in the order of their first places -/
def keysTo (ns : List Nat) : List Nat := ns.foldl (fun K k => if k ∈ K then K else K ++ [k]) []
theorem keys_snoc (ns : List Nat) (k : Nat) : keysTo (ns ++ [k]) = if k ∈ keysTo ns then keysTo ns else keysTo ns ++ [k] := by unfold keysTo; rw [List.foldl_append]; rfl
theorem keys_mem (ns : List Nat) : ∀ a, a ∈ keysTo ns ↔ a ∈ ns := by
  have : ∀ (ns K : List Nat) (a : Nat), a ∈ ns.foldl (fun K k => if k ∈ K then K else K ++ [k]) K ↔ a ∈ K ∨ a ∈ ns := by
    intro ns
    induction ns with
    | nil => simp
    | cons k ns ih =>
      intro K a
      simp only [List.foldl_cons, ih, List.mem_cons]
      by_cases h : k ∈ K
      · simp only [h, if_true]
        constructor
        · rintro (h | h) <;> simp [h]
        · rintro (h2 | rfl | h2) <;> simp [h, *]
      · simp only [h, if_false, List.mem_append, List.mem_singleton]
        constructor
        · rintro ((h | h) | h) <;> simp [h]
        · rintro (h | h | h) <;> simp [h]
  intro a
  have h := this ns [] a
  simp only [List.not_mem_nil, false_or] at h
  exact h
theorem keys_nodup (ns : List Nat) : (keysTo ns).Nodup := by
  have : ∀ (ns K : List Nat), K.Nodup → (ns.foldl (fun K k => if k ∈ K then K else K ++ [k]) K).Nodup := by
    intro ns
    induction ns with
    | nil => intro K h; exact h
    | cons k ns ih =>
      intro K h
      refine ih _ ?_
      by_cases hk : k ∈ K
      · simp [hk, h]
      · simp only [hk, if_false]
        rw [List.nodup_append]
        refine ⟨h, by simp, ?_⟩
        rintro a ha b hb rfl
        simp at hb
        exact hk (hb ▸ ha)
  exact this ns [] (by simp)
theorem keys_len (ns : List Nat) : (keysTo ns).length ≤ ns.length := by
  have : ∀ (ns K : List Nat), (ns.foldl (fun K k => if k ∈ K then K else K ++ [k]) K).length ≤ K.length + ns.length := by
    intro ns
    induction ns with
    | nil => simp
    | cons k ns ih =>
      intro K
      refine Nat.le_trans (ih _) ?_
      by_cases hk : k ∈ K <;> simp [hk] <;> omega
  have h := this ns []
  simp only [List.length_nil, Nat.zero_add] at h
  exact h
/-- the vertices with this name -/
def part (ns : List Nat) (i : Nat) (k : Nat) : List Nat := (List.range i).filter fun j => decide (ns.getD j 0 = k)
theorem part_succ (ns : List Nat) (i k : Nat) : part ns (i + 1) k = part ns i k ++ if ns.getD i 0 = k then [i] else [] := by
  simp only [part, List.range_succ, List.filter_append]
  congr 1
  by_cases h : ns.getD i 0 = k <;> simp only [h, List.filter_cons, List.filter_nil, decide_true, decide_false, if_true, if_false] <;> rfl
theorem part_nil (ns : List Nat) (i k : Nat) (h : k ∉ ns.take i) (hi : i ≤ ns.length) : part ns i k = [] := by
  simp only [part, List.filter_eq_nil_iff, List.mem_range, decide_eq_true_eq]
  intro j hj e
  apply h
  rw [List.mem_take_iff_getElem]
  refine ⟨j, by omega, ?_⟩
  have : j < ns.length := by omega
  simpa [this] using e
theorem part_len (ns i k) : (part ns i k).length ≤ i := by
  have := List.length_filter_le (fun j => decide (ns.getD j 0 = k)) (List.range i)
  simpa [part] using this
theorem lxcomp (g : D) (ns : List Nat) (i : Nat) (hi : i < ns.length) (hn : ns.length ≤ 60) : dSs c_Graph_components lx_Graph_components_2 [g, .lst true (N ns), .dct true true (N (keysTo (ns.take i))) ((keysTo (ns.take i)).map fun k => .lst true (N (part ns i k))), .int i, .gone] = .nx [g, .lst true (N ns), .dct true true (N (keysTo (ns.take (i + 1)))) ((keysTo (ns.take (i + 1))).map fun k => .lst true (N (part ns (i + 1) k))), .int i, .gone] := by
  have hK : keysTo (ns.take (i + 1)) = if ns[i] ∈ keysTo (ns.take i) then keysTo (ns.take i) else keysTo (ns.take i) ++ [ns[i]] := by
    rw [List.take_succ_eq_append_getElem hi, keys_snoc]
  have hlen : (keysTo (ns.take i)).length ≤ 60 := by
    have := keys_len (ns.take i)
    simp at this; omega
  have hnd := keys_nodup (ns.take i)
  have hmem := keys_mem (ns.take i) ns[i]
  have hpl := part_len ns i ns[i]
  have hset := set_idx (fun k => D.lst true (N (part ns i k))) (D.lst true (N (part ns i ns[i] ++ [i]))) ns[i]
  rw [hK]
  generalize hKK : keysTo (ns.take i) = K at *
  have hl2 : (part ns i ns[i]).length < 16777216 := by omega
  have hl3 : K.length < 16777216 := by omega
  by_cases hk : ns[i] ∈ K
  · have hix : K.idxOf ns[i] < K.length := List.idxOf_lt_length_iff.2 hk
    have hfin : (K.map fun k => D.lst true (N (part ns (i + 1) k))) = (K.map fun k => D.lst true (N (part ns i k))).set (K.idxOf ns[i]) (D.lst true (N (part ns i ns[i] ++ [i]))) := by
      rw [hset K hnd]
      apply List.map_congr_left
      intro k _
      rw [part_succ]
      by_cases e : k = ns[i]
      · subst e; simp [hi]
      · have e2 : ¬ ns[i] = k := fun z => e z.symm
        simp [hi, e, e2]
    simp only [hk, if_true, hfin]
    have hf := findD_N ns[i] K
    simp only [hk, if_true] at hf
    simp [lx_Graph_components_2, hi, keyOk, hf, hl3, hl2, hix]
  · have hp : part ns i ns[i] = [] := part_nil ns i _ (fun z => hk (hmem.2 z)) (by omega)
    have hfin : (K.map fun k => D.lst true (N (part ns (i + 1) k))) = (K.map fun k => D.lst true (N (part ns i k))) := by
      apply List.map_congr_left
      intro k hk2
      rw [part_succ]
      have e2 : ¬ ns[i] = k := fun z => hk (z ▸ hk2)
      simp [hi, e2]
    have hp1 : part ns (i + 1) ns[i] = [i] := by rw [part_succ, hp]; simp [hi]
    have hf := findD_N ns[i] K
    simp only [hk, if_false] at hf
    have hf2 := findD_N ns[i] (K ++ [ns[i]])
    simp [List.idxOf_append, hk] at hf2
    simp [hk, hfin, hp1, lx_Graph_components_2, hi, keyOk, hf, hl3, hf2]
end k66
namespace k66
open Mp Mq
theorem shN' (o : Bool) (xs : List Nat) : sh (.lst o (N xs)) = !o := by simp
theorem fz_lstN (o : Bool) (xs : List Nat) : fz (.lst o (N xs)) = .lst false (N xs) := by
  simp [fzL_of_sh _ (shL_N xs)]
theorem fzable_lstN (o : Bool) (xs : List Nat) : fzable (.lst o (N xs)) = true := by
  simp [fzableL_of_sh _ (shL_N xs)]
/-- the parts, in the order of their names -/
def parts (ns : List Nat) (v : Nat) : List D := (sortI (dedI (ns.map fun n : Nat => (n : Int)))).map fun x => .lst false (N (part ns v x.toNat))
theorem sort_keys (ns : List Nat) : sortI ((keysTo ns).map fun n : Nat => (n : Int)) = sortI (dedI (ns.map fun n : Nat => (n : Int))) := by
  apply sortI_permQ
  refine perm_of (nodup_cast (keys_nodup ns)) (nodup_dedIQ _) fun a => ?_
  rw [mem_cast, mem_dedIQ, mem_cast]
  simp only [keys_mem]
theorem ccomp (g w : D) (ns : List Nat) (f : Nat → List Nat) (K : List Nat) (hK : K.Nodup) (hK2 : K.length < 60) (hf : ∀ k, (f k).length ≤ 60) (xs : List Int) (hx : ∀ x ∈ xs, ∃ k ∈ K, x = k) : ∃ o', compL (turnC c_Graph_components (.var 4) [4] .nil ex_Graph_components_1) (xs.map D.int) [g, .lst true (N ns), .dct true true (N K) (K.map fun k => .lst true (N (f k))), w, .gone] none = .ok (xs.map fun x => .lst false (N (f x.toNat)), o') ∧ ∃ b' : Nat → Bool, now [g, .lst true (N ns), .dct true true (N K) (K.map fun k => .lst true (N (f k))), w, .gone] o' = [g, .lst true (N ns), .dct true true (N K) (K.map fun k => .lst (b' k) (N (f k))), w, .gone] := by
  refine comp_mapS (turn := turnC c_Graph_components (.var 4) [4] .nil ex_Graph_components_1) D.int (fun x => .lst false (N (f x.toNat))) (fun ρ => ∃ b : Nat → Bool, ρ = [g, .lst true (N ns), .dct true true (N K) (K.map fun k => .lst (b k) (N (f k))), w, .gone]) ⟨fun _ => true, rfl⟩ ?_
  rintro x hx2 _ ⟨b, rfl⟩
  obtain ⟨k, hk, rfl⟩ := hx x hx2
  have hix : K.idxOf k < K.length := List.idxOf_lt_length_iff.2 hk
  have hfd := findD_N k K
  simp only [hk, if_true] at hfd
  have hset := set_idx (fun k => D.lst (b k) (N (f k))) (D.lst false (N (f k))) k K hK
  have hge : K[K.idxOf k] = k := List.getElem_idxOf hix
  cases hb : b k with
  | false =>
    refine ⟨none, ?_, b, rfl⟩
    rw [turnC_var]
    simp [ex_Graph_components_1, keyOk, hfd, hix, hge, hb]
  | true =>
    refine ⟨some [g, .lst true (N ns), .dct true true (N K) (K.map fun x => .lst (if x = k then false else b x) (N (f x))), w, .gone], ?_, fun x => if x = k then false else b x, rfl⟩
    rw [turnC_var]
    have hfin : (K.map fun x => D.lst (if x = k then false else b x) (N (f x))) = (K.map fun k => D.lst (b k) (N (f k))).set (K.idxOf k) (.lst false (N (f k))) := by
      rw [hset]
      apply List.map_congr_left
      intro x _
      by_cases e : x = k
      · subst e; simp
      · simp [e]
    rw [hfin]
    have h1 := fzL_of_sh _ (shL_N (f k))
    have h2 := fzableL_of_sh _ (shL_N (f k))
    simp [ex_Graph_components_1, keyOk, hfd, hix, hge, hb, h1, h2]
theorem components_ok (v : Nat) (es : List (Nat × Nat)) (hv : v ≤ 50) (h : inR v es) : m_Graph_components [G v es] = .ok (.lst true (parts (names v es) v)) [G v es] := by
  have hnl := names_len v es h
  generalize hns : names v es = ns at *
  have hnl2 : v = ns.length := hnl.symm
  obtain ⟨ρ, e, w, h1⟩ := loop_rng (turn := turnF c_Graph_components (.var 3) lx_Graph_components_2) (ρ := [G v es, .lst true (N ns), .dct true true [] [], .gone, .gone]) (fun i ρ => ∃ w, ρ = [G v es, .lst true (N ns), .dct true true (N (keysTo (ns.take i))) ((keysTo (ns.take i)).map fun k => .lst true (N (part ns i k))), w, .gone]) v ⟨.gone, rfl⟩ (by
    rintro i _ hi ⟨w, rfl⟩
    refine ⟨_, ?_, .int i, rfl⟩
    rw [turnF_var]
    exact lxcomp (G v es) ns i (by omega) (by omega))
  rw [List.take_of_length_le (by omega)] at h1
  subst h1
  have hkl := keys_len ns
  obtain ⟨o', e2, b', h2⟩ := ccomp (G v es) w ns (part ns v) (keysTo ns) (keys_nodup ns) (by omega) (fun k => by have := part_len ns v k; omega) (sortI ((keysTo ns).map fun n : Nat => (n : Int))) (by
    intro x hx
    rw [mem_sortI, mem_cast] at hx
    exact hx)
  have hg := groups_ok v es (by omega) h
  rw [hns] at hg
  have hr : okR (v : Int) = true := okR_nat v (by omega)
  have hk2 : (keysTo ns).length < 64 := by omega
  have hsl : (sortI ((keysTo ns).map fun n : Nat => (n : Int))).length ≤ 16777216 := by
    rw [sort_len]; simp; omega
  have sk : sortI (List.map Nat.cast (keysTo ns)) = sortI (dedI (ns.map fun n : Nat => (n : Int))) := sort_keys ns
  rw [sort_keys] at e2 hsl
  simp only [G, Ed] at hg e e2 h2
  cases o' with
  | none =>
    simp [m_Graph_components, b_Graph_components, dF, small64_eq, hg, e, hr, hk2, e2, hsl, parts, sk]
  | some r =>
    simp only [now_some] at h2
    subst h2
    simp [m_Graph_components, b_Graph_components, dF, small64_eq, hg, e, hr, hk2, e2, hsl, parts, sk]
end k66
namespace k66
open Mp Mq
theorem sh_parts (ns v) : shL (parts ns v) = true := by
  unfold parts
  simp
theorem conn_ok (v : Nat) (es : List (Nat × Nat)) (hv : v ≤ 50) (h : inR v es) : m_Graph_is_connected [G v es] = .ok (.bl (decide ((parts (names v es) v).length = 1))) [G v es] := by
  have hc := components_ok v es hv h
  have hp : (parts (names v es) v).length ≤ 50 := by
    unfold parts
    simp only [List.length_map]
    rw [← sort_keys, sort_len]
    simp only [List.length_map]
    have := keys_len (names v es)
    have := names_len v es h
    omega
  have hp2 : okD 63 (.int (parts (names v es) v).length) = true := by simp
  simp only [G, Ed] at hc
  simp [m_Graph_is_connected, b_Graph_is_connected, dF, small64_eq, hc, sh_parts]
theorem check_ok (v : Nat) (es : List (Nat × Nat)) (a : Nat) (h : a < es.length) : m_Graph_check_edge [G v es, .int a] = .ok .non [G v es, .int a] := by
  simp [m_Graph_check_edge, b_Graph_check_edge, dF, small64_eq, h]
theorem check_no (v : Nat) (es : List (Nat × Nat)) (a : Nat) (h : es.length ≤ a) : m_Graph_check_edge [G v es, .int a] = .exc 1 (.str "edge") := by
  have : ¬ a < es.length := by omega
  simp [m_Graph_check_edge, b_Graph_check_edge, dF, small64_eq, this]
theorem init_turn (g : D) (v : Nat) (a b : Nat) (x y : D) (ha : a < v) (hb : b < v) : turnF c_Graph___init__ (.tup (.cons (.var 3) (.cons (.var 4) .nil))) lx_Graph___init___2 (en (a, b)) [g, .int v, .gone, x, y] = .nx [g, .int v, .gone, .int a, .int b] := by
  rw [en, turnF_two]
  simp [lx_Graph___init___2, ha, hb]
theorem init_comp (g : D) (v : Nat) (es : List (Nat × Nat)) : compL (turnC c_Graph___init__ (.tup (.cons (.var 3) (.cons (.var 4) .nil))) [3, 4] .nil ex_Graph___init___1) (Ed es) [g, .int v, .gone, .gone, .gone] none = .ok (Ed es, none) := by
  refine comp_one (turn := turnC c_Graph___init__ (.tup (.cons (.var 3) (.cons (.var 4) .nil))) [3, 4] .nil ex_Graph___init___1) en en ?_
  rintro ⟨a, b⟩ _
  rw [en, turnC_two]
  simp [ex_Graph___init___1]
theorem init_ok (v : Nat) (d : D) (es : List (Nat × Nat)) (hd : (∃ o, d = .lst o (Ed es)) ∨ d = .tup (Ed es)) (h : inR v es) (hl : es.length ≤ 1000) : m_Graph___init__ [.ins true 0 [] [], .int v, d] = .ok .non [.ins true 0 [0, 1] [.int v, .tup (Ed es)], .int v, d] := by
  obtain ⟨ρ, e, x, y, hxy, rfl⟩ := loop_keep (turn := turnF c_Graph___init__ (.tup (.cons (.var 3) (.cons (.var 4) .nil))) lx_Graph___init___2) en (fun ρ => ∃ x y, ((x = .gone ∧ y = .gone) ∨ (∃ i j, x = .int i ∧ y = .int j)) ∧ ρ = [.ins true 0 [] [], .int v, .gone, x, y]) es [.ins true 0 [] [], .int v, .gone, .gone, .gone] ⟨.gone, .gone, .inl ⟨rfl, rfl⟩, rfl⟩ (by
    rintro ⟨a, b⟩ _ hx ⟨x, y, _, rfl⟩
    obtain ⟨ha, hb⟩ := h _ hx
    exact ⟨_, init_turn _ v a b x y ha hb, .int a, .int b, .inr ⟨a, b, rfl, rfl⟩, rfl⟩)
  have hc := init_comp (.ins true 0 [0] [.int v]) v es
  have hl2 : es.length ≤ 16777216 := by omega
  simp only [Ed] at e hc
  rcases hxy with ⟨rfl, rfl⟩ | ⟨i, j, rfl, rfl⟩ <;> rcases hd with ⟨o, rfl⟩ | rfl <;> simp [m_Graph___init__, b_Graph___init__, dF, small64_eq, e, hc, hl2, storeF, putF]
theorem init_bad (v : Nat) (o : Bool) (es : List (Nat × Nat)) (h : inR v es) (x y : Int) (hxy : ¬ (0 ≤ x ∧ x < v) ∨ ¬ (0 ≤ y ∧ y < v)) : m_Graph___init__ [.ins true 0 [] [], .int v, .lst o (Ed es ++ [.tup [.int x, .int y]])] = .exc 1 (.str "edges") := by
  obtain ⟨ρ, e⟩ := loop_exc (turn := turnF c_Graph___init__ (.tup (.cons (.var 3) (.cons (.var 4) .nil))) lx_Graph___init___2) en (fun ρ => ∃ x y, ρ = [.ins true 0 [] [], .int v, .gone, x, y]) (.tup [.int x, .int y]) 1 (.str "edges") es [] [.ins true 0 [] [], .int v, .gone, .gone, .gone] ⟨.gone, .gone, rfl⟩ (by
    rintro ⟨a, b⟩ _ hx ⟨x, y, rfl⟩
    obtain ⟨ha, hb⟩ := h _ hx
    exact ⟨_, init_turn _ v a b x y ha hb, .int a, .int b, rfl⟩) (by
    rintro _ ⟨p, q, rfl⟩
    rw [turnF_two]
    refine ⟨[.ins true 0 [] [], .int v, .gone, .int x, .int y], ?_⟩
    by_cases h1 : 0 ≤ x <;> by_cases h2 : x < v <;> by_cases h3 : 0 ≤ y <;> by_cases h4 : y < v <;> first | (exfalso; omega) | simp [lx_Graph___init___2, h1, h2, h3, h4])
  simp [m_Graph___init__, b_Graph___init__, dF, small64_eq, e]
theorem init_neg (v : Int) (d : D) (hv : v < 0) : m_Graph___init__ [.ins true 0 [] [], .int v, d] = .exc 1 (.str "vertices") := by
  simp [m_Graph___init__, b_Graph___init__, dF, small64_eq, hv]
end k66
namespace k66
open Mp Mq
theorem deleted_ok (v : Nat) (es : List (Nat × Nat)) (h : inR v es) (hl : es.length ≤ 1000) (a : Nat) (ha : a < es.length) : m_Graph_deleted [G v es, .int a] = .ok (G v (es.take a ++ es.drop (a + 1))) [G v es, .int a] := by
  have hc := check_ok v es a ha
  have hr : inR v (es.take a ++ es.drop (a + 1)) := fun e he => h e (by
    rcases List.mem_append.1 he with h | h
    · exact List.mem_of_mem_take h
    · exact List.mem_of_mem_drop h)
  have hi := init_ok v (.tup (Ed (es.take a ++ es.drop (a + 1)))) _ (.inr rfl) hr (by simp; omega)
  simp only [Ed, List.map_append, List.map_take, List.map_drop] at hi
  have hal : a ≤ es.length := by omega
  have hll : a + (es.length - (a + 1)) ≤ 16777216 := by omega
  simp only [G, Ed] at hc
  simp [m_Graph_deleted, b_Graph_deleted, dF, small64_eq, hc, ha, hal, hi, hll]
theorem deleted_no (v : Nat) (es : List (Nat × Nat)) (a : Nat) (ha : es.length ≤ a) : m_Graph_deleted [G v es, .int a] = .exc 1 (.str "edge") := by
  have hc := check_no v es a ha
  simp only [G, Ed] at hc
  simp [m_Graph_deleted, b_Graph_deleted, dF, small64_eq, hc]
theorem reversed_ok (v : Nat) (es : List (Nat × Nat)) (h : inR v es) (hl : es.length ≤ 1000) (a : Nat) (ha : a < es.length) : m_Graph_reversed_edge [G v es, .int a] = .ok (G v (es.take a ++ [(es[a].2, es[a].1)] ++ es.drop (a + 1))) [G v es, .int a] := by
  have hc := check_ok v es a ha
  have hm := h es[a] (List.getElem_mem _)
  have hr : inR v (es.take a ++ [(es[a].2, es[a].1)] ++ es.drop (a + 1)) := fun e he => by
    rcases List.mem_append.1 he with h1 | h1
    · rcases List.mem_append.1 h1 with h2 | h2
      · exact h e (List.mem_of_mem_take h2)
      · simp at h2; subst h2; exact ⟨hm.2, hm.1⟩
    · exact h e (List.mem_of_mem_drop h1)
  have hi := init_ok v (.tup (Ed (es.take a ++ [(es[a].2, es[a].1)] ++ es.drop (a + 1)))) _ (.inr rfl) hr (by simp; omega)
  simp only [Ed, List.map_append, List.map_take, List.map_drop, List.map_cons, List.map_nil, List.append_assoc, List.cons_append, List.nil_append] at hi
  have hal : a ≤ es.length := by omega
  have hll : a + (1 + (es.length - (a + 1))) ≤ 16777216 := by omega
  have hll2 : a + 1 ≤ 16777216 := by omega
  have hll3 : a + 1 + (es.length - (a + 1)) ≤ 16777216 := by omega
  simp only [G, Ed] at hc
  simp [m_Graph_reversed_edge, b_Graph_reversed_edge, dF, small64_eq, hc, ha, hal, hi, hll, hll2, hll3]
theorem reversed_no (v : Nat) (es : List (Nat × Nat)) (a : Nat) (ha : es.length ≤ a) : m_Graph_reversed_edge [G v es, .int a] = .exc 1 (.str "edge") := by
  have hc := check_no v es a ha
  simp only [G, Ed] at hc
  simp [m_Graph_reversed_edge, b_Graph_reversed_edge, dF, small64_eq, hc]
theorem contracted_no (v : Nat) (es : List (Nat × Nat)) (a : Nat) (ha : es.length ≤ a) : m_Graph_contracted [G v es, .int a] = .exc 1 (.str "edge") := by
  have hc := check_no v es a ha
  simp only [G, Ed] at hc
  simp [m_Graph_contracted, b_Graph_contracted, dF, small64_eq, hc]
theorem shown_ok (v : Nat) (es : List (Nat × Nat)) : m_l_law_shown [G v es] = .ok (.lst true [.int v, .tup (Ed es)]) [G v es] := by
  simp [m_l_law_shown, b_l_law_shown, dF, small64_eq]
end k66
namespace k66
open Mp Mq
def pick (es : List (Nat × Nat)) (ks : List Nat) : List (Nat × Nat) := ks.map fun k => es.getD k (0, 0)
def rk (v : Nat) (es : List (Nat × Nat)) : Int := (v : Int) - ((dedI ((names v es).map fun n : Nat => (n : Int))).length : Int)
theorem lrank_ok (v : Nat) (o : Bool) (es : List (Nat × Nat)) (hv : v ≤ 50) (h : inR v es) : m_l_law_rank [.int v, .lst o (Ed es)] = .ok (.int (rk v es)) [.int v, .lst o (Ed es)] := by
  have hn := lnames v o es (by omega) h
  have hl := names_len v es h
  have hl2 : (names v es).length < 1000 := by omega
  simp only [Ed] at hn
  cases o <;> simp [m_l_law_rank, b_l_law_rank, dF, small64_eq, hn, hl2, rk] <;> rfl
theorem pick_in (v : Nat) (es : List (Nat × Nat)) (ks : List Nat) (h : inR v es) (hk : ∀ k ∈ ks, k < es.length) : inR v (pick es ks) := by
  intro e he
  simp only [pick, List.mem_map] at he
  obtain ⟨k, hk2, rfl⟩ := he
  have := hk k hk2
  simp only [List.getD_eq_getElem?_getD, List.getElem?_eq_getElem this, Option.getD_some]
  exact h _ (List.getElem_mem _)
theorem rank_ok (v : Nat) (es : List (Nat × Nat)) (ks : List Nat) (d : D) (hd : d = .lst false (N ks) ∨ d = .lst true (N ks) ∨ d = .tup (N ks)) (hv : v ≤ 50) (h : inR v es) (hk : ∀ k ∈ ks, k < es.length) (hl : ks.length ≤ 1000) : m_Graph_rank_of [G v es, d] = .ok (.int (rk v (pick es ks))) [G v es, d] := by
  obtain ⟨ρ, e, x, hx, rfl⟩ := loop_keep (turn := turnF c_Graph_rank_of (.var 2) lx_Graph_rank_of_4) (fun n : Nat => D.int n) (fun ρ => ∃ x : D, (x = .gone ∨ ∃ i, x = .int i) ∧ ρ = [G v es, .gone, x, .gone, .gone]) ks [G v es, .gone, .gone, .gone, .gone] ⟨.gone, .inl rfl, rfl⟩ (by
    rintro k _ hk2 ⟨x, _, rfl⟩
    refine ⟨[G v es, .gone, .int k, .gone, .gone], ?_, .int k, .inr ⟨_, rfl⟩, rfl⟩
    rw [turnF_var]
    have := hk k hk2
    simp [lx_Graph_rank_of_4, this])
  have hc := comp_one (turn := turnC c_Graph_rank_of (.var 2) [2] .nil ex_Graph_rank_of_3) (fun n : Nat => D.int n) (fun k => en (es.getD k (0, 0))) (xs := ks) (ρ := [G v es, .gone, .gone, .gone, .gone]) (by
    intro k hk2
    have := hk k hk2
    rw [turnC_var]
    simp [ex_Graph_rank_of_3, this])
  have hp := pick_in v es ks h hk
  have hg := groups_ok2 v true (pick es ks) (by omega) hp
  have hnl := names_len v _ hp
  have hre := rank_eq v _ hp
  simp only [rk, ← hre]
  have hpe : Ed (pick es ks) = ks.map fun k => en (es.getD k (0, 0)) := by simp [pick]
  rw [hpe] at hg
  generalize hns : names v (pick es ks) = ns at *
  have hc2 : ∀ (x : D), compL (turnC c_Graph_rank_of (.var 4) [4] cx_Graph_rank_of_1 ex_Graph_rank_of_2) (rngL 0 v) [G v es, d, x, .lst true (N ns), .gone] none = .ok (((List.range v).filter fun i => decide (ns.getD i 0 = i)).map fun n : Nat => D.int n, none) := by
    intro x
    rw [rng_enc]
    refine comp_some (turn := turnC c_Graph_rank_of (.var 4) [4] cx_Graph_rank_of_1 ex_Graph_rank_of_2) (fun j : Nat => D.int j) _ _ ?_
    intro i hi
    simp only [List.mem_range] at hi
    have hi2 : i < ns.length := by omega
    rw [turnC_var]
    by_cases hq : ns[i] = i <;> simp [cx_Graph_rank_of_1, ex_Graph_rank_of_2, hi2, hq]
  have hr : okR (v : Int) = true := okR_nat v (by omega)
  have hl2 : ks.length ≤ 16777216 := by omega
  have hl3 : ((List.range v).filter fun i => decide (ns.getD i 0 = i)).length ≤ 16777216 := by
    have := List.length_filter_le (fun i => decide (ns.getD i 0 = i)) (List.range v)
    simp only [List.length_range] at this
    omega
  simp only [G, Ed, N, en, List.getD_eq_getElem?_getD] at e hc hg hc2 hl3
  rcases hx with rfl | ⟨i, rfl⟩ <;> rcases hd with rfl | rfl | rfl <;> simp [m_Graph_rank_of, b_Graph_rank_of, dF, small64_eq, e, hc, hg, hc2, hr, hl2, hl3]
theorem rank_no (v : Nat) (es : List (Nat × Nat)) (o : Bool) (a : Nat) (ha : es.length ≤ a) : m_Graph_rank_of [G v es, .lst o [.int a]] = .exc 2 (.str "edges") := by
  have : ¬ a < es.length := by omega
  simp [m_Graph_rank_of, b_Graph_rank_of, dF, small64_eq, loopF, turnF_var, lx_Graph_rank_of_4, this]
end k66
namespace k66
open Mp Mq
def cm (lo hi x : Nat) : Nat := if x = hi then lo else if hi < x then x - 1 else x
def rest (es : List (Nat × Nat)) (a : Nat) : List (Nat × Nat) := es.take a ++ es.drop (a + 1)
def contr (v : Nat) (es : List (Nat × Nat)) (a : Nat) (e : Nat × Nat) : Nat × List (Nat × Nat) :=
  if e.1 = e.2 then (v, rest es a) else (v - 1, (rest es a).map fun x => (cm (min e.1 e.2) (max e.1 e.2) x.1, cm (min e.1 e.2) (max e.1 e.2) x.2))
theorem rest_in {v : Nat} {es : List (Nat × Nat)} (h : inR v es) (a : Nat) : inR v (rest es a) := fun e he => h e (by
    rcases List.mem_append.1 he with h | h
    · exact List.mem_of_mem_take h
    · exact List.mem_of_mem_drop h)
theorem rest_len (es : List (Nat × Nat)) (a : Nat) : (rest es a).length ≤ es.length := by simp [rest]; omega
theorem Ed_rest (es : List (Nat × Nat)) (a : Nat) : Ed (rest es a) = (Ed es).take a ++ (Ed es).drop (a + 1) := by simp [rest]
theorem contr_in {v : Nat} {es : List (Nat × Nat)} (h : inR v es) (a : Nat) (e : Nat × Nat) (he : e.1 < v ∧ e.2 < v) : inR (contr v es a e).1 (contr v es a e).2 := by
  unfold contr
  by_cases hq : e.1 = e.2
  · simp only [hq, if_true]; exact rest_in h a
  · simp only [hq, if_false]
    intro x hx
    simp only [List.mem_map] at hx
    obtain ⟨y, hy, rfl⟩ := hx
    have := rest_in h a y hy
    simp only [cm]
    constructor <;> split <;> (try split) <;> omega
theorem pl1 (ρ0 : Env) (l h x : Nat) (p : List D) (hp : p.length < 16777216) (a b c d e f g i j : D) : dSs c_l_law_contracted lx_l_law_contracted_1 [a, b, c, .int l, .int h, d, e, f, g, .lst true p, .int x] = .nx [a, b, c, .int l, .int h, d, e, f, g, .lst true (p ++ [.int (cm l h x : Nat)]), .int x] := by
  by_cases h1 : x = h
  · simp [lx_l_law_contracted_1, h1, hp, cm]
  · by_cases h2 : h < x
    · have : ((x : Int) - 1) = ((x - 1 : Nat) : Int) := by omega
      simp [lx_l_law_contracted_1, h1, hp, cm, h2, this]
    · simp [lx_l_law_contracted_1, h1, hp, cm, h2]
theorem pl2 (l h x y : Nat) (F : List (Nat × Nat)) (hF : F.length < 16777216) (a b c d p q : D) : dSs c_l_law_contracted lx_l_law_contracted_2 [a, b, c, .int l, .int h, d, .lst true (Ed F), .int x, .int y, p, q] = .nx [a, b, c, .int l, .int h, d, .lst true (Ed (F ++ [(cm l h x, cm l h y)])), .int x, .int y, .lst true [.int (cm l h x : Nat), .int (cm l h y : Nat)], .int y] := by
  have e1 := pl1 [] l h x [] (by simp) a b c d (.lst true (Ed F)) (.int x) (.int y) .gone .gone
  have e2 := pl1 [] l h y [.int (cm l h x : Nat)] (by simp) a b c d (.lst true (Ed F)) (.int x) (.int y) .gone .gone
  simp only [Ed] at e1 e2
  simp only [List.nil_append] at e1
  simp [lx_l_law_contracted_2, loopF, turnF_var, e1, e2, hF, place]
theorem lcontr_ok (v : Nat) (es : List (Nat × Nat)) (hl : es.length ≤ 1000) (a : Nat) (ha : a < es.length) (hv : 0 < v) : m_l_law_contracted [.int v, .lst true (Ed es), .int a] = .ok (.tup [.int (contr v es a es[a]).1, .lst true (Ed (contr v es a es[a]).2)]) [.int v, .lst true (Ed es), .int a] := by
  have hal : a ≤ es.length := by omega
  have hll : a + (es.length - (a + 1)) ≤ 16777216 := by omega
  have er := Ed_rest es a
  have hrl := rest_len es a
  simp only [Ed] at er
  by_cases hq : es[a].1 = es[a].2
  · simp [m_l_law_contracted, b_l_law_contracted, dF, small64_eq, ha, hal, hll, min1_pair, max1_pair, hq, contr]
    simp [rest]
  · have hmm : ¬ (min es[a].1 es[a].2 = max es[a].1 es[a].2) := by omega
    obtain ⟨ρ, e, x1, x2, x3, x4, rfl⟩ := loop_pre (turn := turnF c_l_law_contracted (.tup (.cons (.var 7) (.cons (.var 8) .nil))) lx_l_law_contracted_2) en (fun i ρ => ∃ x1 x2 x3 x4, ρ = [.int v, .lst true (Ed es), .int a, .int (min es[a].1 es[a].2 : Nat), .int (max es[a].1 es[a].2 : Nat), .gone, .lst true (Ed (((rest es a).take i).map fun x => (cm (min es[a].1 es[a].2) (max es[a].1 es[a].2) x.1, cm (min es[a].1 es[a].2) (max es[a].1 es[a].2) x.2))), x1, x2, x3, x4]) (rest es a) (ρ := [.int v, .lst true (Ed es), .int a, .int (min es[a].1 es[a].2 : Nat), .int (max es[a].1 es[a].2 : Nat), .gone, .lst true [], .gone, .gone, .gone, .gone]) ⟨_, _, _, _, by simp; exact ⟨rfl, rfl, rfl, rfl⟩⟩ (by
      rintro i hi _ ⟨x1, x2, x3, x4, rfl⟩
      refine ⟨_, ?_, .int (rest es a)[i].1, .int (rest es a)[i].2, .lst true [.int (cm (min es[a].1 es[a].2) (max es[a].1 es[a].2) (rest es a)[i].1 : Nat), .int (cm (min es[a].1 es[a].2) (max es[a].1 es[a].2) (rest es a)[i].2 : Nat)], .int (rest es a)[i].2, rfl⟩
      rw [en, turnF_two]
      have := pl2 (min es[a].1 es[a].2) (max es[a].1 es[a].2) (rest es a)[i].1 (rest es a)[i].2 (((rest es a).take i).map fun x => (cm (min es[a].1 es[a].2) (max es[a].1 es[a].2) x.1, cm (min es[a].1 es[a].2) (max es[a].1 es[a].2) x.2)) (by simp; omega) (.int v) (.lst true (Ed es)) (.int a) .gone x3 x4
      rw [List.take_succ_eq_append_getElem hi, List.map_append]
      exact this)
    rw [List.take_length] at e
    simp only [er] at e
    have hv2 : ((v : Int) - 1) = ((v - 1 : Nat) : Int) := by omega
    simp [m_l_law_contracted, b_l_law_contracted, dF, small64_eq, ha, hal, hll, min1_pair, max1_pair, hmm, e, contr, hq, hv2]
end k66
namespace k66
open Mp Mq
def CN (l h v : Nat) : List Nat := List.range h ++ l :: (List.range (v - 1 - h)).map (h + ·)
theorem CN_get (l h v x : Nat) (hh : h < v) (hx : x < v) : (CN l h v)[x]? = some (cm l h x) := by
  unfold CN cm
  by_cases h1 : x < h
  · rw [List.getElem?_append_left (by simpa using h1)]
    have h2 : ¬ x = h := by omega
    have h3 : ¬ h < x := by omega
    simp [h1, h2, h3]
  · rw [List.getElem?_append_right (by simp; omega)]
    by_cases h2 : x = h
    · subst h2; simp
    · have h3 : h < x := by omega
      obtain ⟨j, rfl⟩ : ∃ j, x = h + (j + 1) := ⟨x - h - 1, by omega⟩
      have h4 : j < v - 1 - h := by omega
      simp [h4]
theorem CN_len (l h v : Nat) (hh : h < v) : (CN l h v).length = v := by simp [CN]; omega
theorem N_CN (l h v : Nat) : N (CN l h v) = rngL 0 h ++ .int l :: rngL h (v - 1 - h) := by
  simp [CN, rngL_eq]
theorem cc (g : D) (l h v : Nat) (hh : h < v) (rs : List (Nat × Nat)) (hr : inR v rs) (a : D) : compL (turnC c_Graph_contracted (.tup (.cons (.var 6) (.cons (.var 7) .nil))) [6, 7] .nil ex_Graph_contracted_1) (Ed rs) [g, a, .int l, .int h, .gone, .lst true (N (CN l h v)), .gone, .gone] none = .ok (rs.map fun x => en (cm l h x.1, cm l h x.2), none) := by
  refine comp_one (turn := turnC c_Graph_contracted (.tup (.cons (.var 6) (.cons (.var 7) .nil))) [6, 7] .nil ex_Graph_contracted_1) en _ ?_
  rintro ⟨x, y⟩ hxy
  obtain ⟨hx, hy⟩ := hr _ hxy
  simp only at hx hy
  rw [en, turnC_two]
  have hl := CN_len l h v hh
  have h1 := CN_get l h v x hh hx
  have h2 := CN_get l h v y hh hy
  have h3 : ((CN l h v).map fun n : Nat => D.int n)[x]? = some (.int (cm l h x : Nat)) := by simp [h1]
  have h4 : ((CN l h v).map fun n : Nat => D.int n)[y]? = some (.int (cm l h y : Nat)) := by simp [h2]
  have p1 : place (x : Int) (CN l h v).length = some x := place_nat _ _ (by omega)
  have p2 : place (y : Int) (CN l h v).length = some y := place_nat _ _ (by omega)
  simp [ex_Graph_contracted_1, -List.getElem?_map, p1, p2, h3, h4]
theorem contracted_ok (v : Nat) (es : List (Nat × Nat)) (h : inR v es) (hl : es.length ≤ 1000) (hv : v ≤ 1000) (a : Nat) (ha : a < es.length) : m_Graph_contracted [G v es, .int a] = .ok (G (contr v es a es[a]).1 (contr v es a es[a]).2) [G v es, .int a] := by
  have hc := check_ok v es a ha
  have hm := h es[a] (List.getElem_mem _)
  have hal : a ≤ es.length := by omega
  have hll : a + (es.length - (a + 1)) ≤ 16777216 := by omega
  have hrl := rest_len es a
  have er := Ed_rest es a
  simp only [Ed] at er
  simp only [G, Ed] at hc
  by_cases hq : es[a].1 = es[a].2
  · have hi := init_ok v (.tup (Ed (rest es a))) _ (.inr rfl) (rest_in h a) (by omega)
    simp only [Ed, er] at hi
    simp [m_Graph_contracted, b_Graph_contracted, dF, small64_eq, hc, ha, hal, hll, min1_pair, max1_pair, hq, contr, hi]
    simp [rest]
  · have hmm : ¬ (min es[a].1 es[a].2 = max es[a].1 es[a].2) := by omega
    have hv2 : ((v : Int) - 1) = ((v - 1 : Nat) : Int) := by omega
    have hci := contr_in h a es[a] hm
    have hi := init_ok (contr v es a es[a]).1 (.lst true (Ed (contr v es a es[a]).2)) _ (.inl ⟨true, rfl⟩) hci (by simp [contr, hq]; omega)
    simp only [contr, hq, if_false] at hi hci ⊢
    have hx : max es[a].1 es[a].2 < v := by omega
    have hcc := cc (G v es) (min es[a].1 es[a].2) (max es[a].1 es[a].2) v hx (rest es a) (rest_in h a) (.int a)
    rw [N_CN] at hcc
    generalize hlo : min es[a].1 es[a].2 = lo at *
    generalize hhi : max es[a].1 es[a].2 = hi2 at *
    have hr1 : okR (hi2 : Int) = true := okR_nat _ (by omega)
    have hr2 : okR ((v - 1 : Nat) : Int) = true := okR_nat _ (by omega)
    have hts : (((v - 1 : Nat) : Int) - (hi2 : Int)).toNat = v - 1 - hi2 := by omega
    have hs1 : shL (rngL 0 hi2) = true := by rw [rng_enc]; simp
    have hs2 : shL (rngL (hi2 : Int) (v - 1 - hi2)) = true := by rw [rngL_eq]; simp
    have hn1 : hi2 ≤ 16777216 := by omega
    have hn2 : hi2 + 1 ≤ 16777216 := by omega
    have hn3 : v - 1 - hi2 ≤ 16777216 := by omega
    have hn4 : hi2 + 1 + (v - 1 - hi2) ≤ 16777216 := by omega
    have hn5 : (rest es a).length ≤ 16777216 := by omega
    simp only [Ed, er, List.map_map, Function.comp_def] at hcc hi
    simp [m_Graph_contracted, b_Graph_contracted, dF, small64_eq, hc, ha, hal, hll, min1_pair, max1_pair, hlo, hhi, hmm, hv2, hr1, hr2, hts, hs1, hs2, hn1, hn2, hn3, hn4, hn5, hcc, hi, Function.comp_def]
end k66
namespace k66
open Mp Mq
/-- data that `plain` is asked for, of depth up to n -/
def gd : Nat → D → Bool
  | _, .bl _ => true
  | _, .int _ => true
  | n + 1, .tup xs => decide (xs.length ≤ 1000) && xs.all (gd n)
  | n + 1, .lst _ xs => decide (xs.length ≤ 1000) && xs.all (gd n)
  | _, _ => false
def pv : Nat → D → D
  | _, .non => .str "None"
  | _, .bl b => .str (if b then "True" else "False")
  | _, .int i => .lst false [.bl false, .int i]
  | n + 1, .tup xs => .lst false (.bl false :: xs.map (pv n))
  | n + 1, .lst _ xs => .lst false (.bl true :: xs.map (pv n))
  | _, _ => .gone
def ow : D → D
  | .lst _ xs => .lst true xs
  | d => d
theorem gd_fz (n : Nat) : ∀ d, gd n d = true → gd n (fz d) = true ∧ sh (fz d) = true ∧ fzable d = true ∧ pv n (fz d) = pv n d := by
  induction n with
  | zero =>
    intro d h
    cases d <;> simp [gd] at h <;> simp [gd, pv]
  | succ n ih =>
    have key : ∀ xs : List D, xs.all (gd n) = true → (fzL xs).all (gd n) = true ∧ shL (fzL xs) = true ∧ fzableL xs = true ∧ (fzL xs).map (pv n) = xs.map (pv n) := by
      intro xs
      induction xs with
      | nil => intro _; simp
      | cons x xs ihx =>
        intro h
        simp only [List.all_cons, Bool.and_eq_true] at h
        obtain ⟨a1, a2, a3, a4⟩ := ih x h.1
        obtain ⟨b1, b2, b3, b4⟩ := ihx h.2
        simp [a1, a2, a3, a4, b1, b2, b3, b4]
    intro d h
    cases d with
    | tup xs =>
      simp only [gd, Bool.and_eq_true, decide_eq_true_eq] at h
      obtain ⟨b1, b2, b3, b4⟩ := key xs h.2
      have : (fzL xs).length = xs.length := by rw [fz_shL]; simp
      simp [gd, pv, b1, b2, b3, b4, this, h.1]
    | lst o xs =>
      simp only [gd, Bool.and_eq_true, decide_eq_true_eq] at h
      obtain ⟨b1, b2, b3, b4⟩ := key xs h.2
      have : (fzL xs).length = xs.length := by rw [fz_shL]; simp
      simp [gd, pv, b1, b2, b3, b4, this, h.1]
    | bl b => simp [gd, pv]
    | int i => simp [gd, pv]
    | _ => simp [gd] at h
@[simp] theorem ok_None : strOk (PySem.Str.ofString "None") = true := by decide +kernel
@[simp] theorem ok_True : strOk (PySem.Str.ofString "True") = true := by decide +kernel
@[simp] theorem ok_False : strOk (PySem.Str.ofString "False") = true := by decide +kernel
theorem str_refl (s : PySem.Str) : (s == s) = true := by simp
theorem pv_ok (n : Nat) : ∀ d, gd n d = true → sh (pv n d) = true ∧ fz (ow (pv n d)) = pv n d ∧ fzable (ow (pv n d)) = true ∧ eqD (ow (pv n d)) (ow (pv n d)) = true ∧ eqD (pv n d) (pv n d) = true ∧ ∀ k, okD (n + 1 + k) (pv n d) = true := by
  induction n with
  | zero =>
    intro d h
    cases d with
    | bl b => cases b <;> simp [pv, ow]
    | int i =>
      refine ⟨by simp [pv], by simp [pv, ow], by simp [pv, ow], by simp [pv, ow], by simp [pv], fun k => ?_⟩
      rw [show 0 + 1 + k = k + 1 by omega]
      simp [pv]
    | _ => simp [gd] at h <;> simp [pv, ow]
  | succ n ih =>
    have key : ∀ xs : List D, xs.all (gd n) = true → shL (xs.map (pv n)) = true ∧ eqL (xs.map (pv n)) (xs.map (pv n)) = true ∧ ∀ k, okL (n + 1 + k) (xs.map (pv n)) = true := by
      intro xs
      induction xs with
      | nil => intro _; simp
      | cons x xs ihx =>
        intro h
        simp only [List.all_cons, Bool.and_eq_true] at h
        obtain ⟨a1, a2, a3, a4, a5, a6⟩ := ih x h.1
        obtain ⟨b1, b2, b3⟩ := ihx h.2
        simp [a1, a5, a6, b1, b2, b3]
    have key2 : ∀ (b : Bool) (xs : List D), xs.all (gd n) = true → sh (.lst false (.bl b :: xs.map (pv n))) = true ∧ fz (.lst true (.bl b :: xs.map (pv n))) = .lst false (.bl b :: xs.map (pv n)) ∧ fzable (.lst true (.bl b :: xs.map (pv n))) = true ∧ eqD (.lst true (.bl b :: xs.map (pv n))) (.lst true (.bl b :: xs.map (pv n))) = true ∧ eqD (.lst false (.bl b :: xs.map (pv n))) (.lst false (.bl b :: xs.map (pv n))) = true ∧ ∀ k, okD (n + 1 + 1 + k) (.lst false (.bl b :: xs.map (pv n))) = true := by
      intro b xs h
      obtain ⟨b1, b2, b3⟩ := key xs h
      refine ⟨by simp [b1], by simp [fzL_of_sh _ b1], by simp [fzableL_of_sh _ b1], by simp [b2], by simp [b2], fun k => ?_⟩
      rw [show n + 1 + 1 + k = (n + 1 + k) + 1 by omega, okD_lst]
      simp [b3]
    intro d h
    cases d with
    | tup xs =>
      simp only [gd, Bool.and_eq_true, decide_eq_true_eq] at h
      exact key2 false xs h.2
    | lst o xs =>
      simp only [gd, Bool.and_eq_true, decide_eq_true_eq] at h
      exact key2 true xs h.2
    | bl b => cases b <;> simp [pv, ow]
    | int i =>
      refine ⟨by simp [pv], by simp [pv, ow], by simp [pv, ow], by simp [pv, ow], by simp [pv], fun k => ?_⟩
      rw [show n + 1 + 1 + k = (n + 1 + k) + 1 by omega]
      simp [pv]
    | _ => simp [gd] at h
theorem soft_lst_fz (o : Bool) (xs : List D) (h : fzableL xs = true) : (shL xs = true ∧ soft (.lst o xs) = some (.lst o (fzL xs))) ∨ soft (.lst o xs) = some (.lst false (fzL xs)) := by
  rw [soft_lst]
  cases hs : shL xs with
  | true => left; simp [fzL_of_sh xs hs]
  | false => right; simp [h]
theorem fzL_sh : ∀ xs : List D, fzableL xs = true → shL (fzL xs) = true := by
  have key : ∀ n : Nat, (∀ d : D, sizeOf d < n → fzable d = true → sh (fz d) = true) ∧ ∀ xs : List D, sizeOf xs < n → fzableL xs = true → shL (fzL xs) = true := by
    intro n
    induction n with
    | zero => exact ⟨fun d h => by omega, fun d h => by omega⟩
    | succ n ih =>
      obtain ⟨i1, i2⟩ := ih
      refine ⟨fun d hd h => ?_, fun xs hd h => ?_⟩
      · cases d with
        | tup xs => simp at hd h; simp [i2 xs (by omega) h]
        | lst o xs => simp at hd h; simp [i2 xs (by omega) h]
        | dct o k ks xs => simp at hd h; simp [i2 xs (by omega) h]
        | ins o k ks xs => simp at hd h; simp [i2 xs (by omega) h]
        | gone => simp [fzable] at h
        | _ => simp
      · cases xs with
        | nil => rfl
        | cons x xs =>
          simp at hd h
          simp [i1 x (by omega) h.1, i2 xs (by omega) h.2]
  intro xs h
  exact (key (sizeOf xs + 1)).2 xs (by omega) h
theorem plain_seq (n : Nat) (ih : ∀ d, gd n d = true → ∃ x', r_l_law_plain (n + 1) [d] = .ok (ow (pv n d)) [x']) (xs : List D) (h : xs.all (gd n) = true) (hl : xs.length ≤ 1000) : ∃ ys, compL (turnC (c_l_law_plain (r_l_law_plain (n + 1))) (.var 1) [1] .nil ex_l_law_plain_1) (fzL xs) [.gone, .gone] none = .ok (ys, none) ∧ ys.length = xs.length ∧ fzableL ys = true ∧ fzL ys = xs.map (pv n) := by
  refine ⟨xs.map fun x => ow (pv n x), ?_, by simp, ?_, ?_⟩
  · rw [fz_shL]
    refine comp_one (turn := turnC (c_l_law_plain (r_l_law_plain (n + 1))) (.var 1) [1] .nil ex_l_law_plain_1) fz _ ?_
    intro x hx
    have hg := List.all_eq_true.1 h x hx
    obtain ⟨a1, a2, a3, a4⟩ := gd_fz n x hg
    obtain ⟨x', e⟩ := ih (fz x) a1
    rw [a4] at e
    rw [turnC_var]
    have hng : fz x ≠ .gone := by intro z; rw [z] at a2; simp at a2
    cases hfx : fz x <;> first | (exact absurd hfx hng) | skip
    all_goals
      rw [hfx] at e a2
      simp [ex_l_law_plain_1, e, -sh_tup, -sh_lst, -sh_dct, -sh_ins, a2]
  · clear ih hl
    induction xs with
    | nil => rfl
    | cons x xs ihx =>
      simp only [List.all_cons, Bool.and_eq_true] at h
      simp [(pv_ok n x h.1).2.2.1, ihx h.2]
  · clear ih hl
    induction xs with
    | nil => rfl
    | cons x xs ihx =>
      simp only [List.all_cons, Bool.and_eq_true] at h
      simp [(pv_ok n x h.1).2.1, ihx h.2]
theorem r_step (n : Nat) : r_l_law_plain (n + 1) = dF (c_l_law_plain (r_l_law_plain n)) b_l_law_plain := rfl
theorem plain_scalar (n m : Nat) (d : D) (h : gd 0 d = true) : r_l_law_plain (n + 1) [d] = .ok (ow (pv m d)) [d] := by
  cases d with
  | bl b => cases m <;> cases b <;> simp [r_l_law_plain, b_l_law_plain, dF, small64_eq, isTy, tyD, tyEq, pv, ow, place, itemD]
  | int i => cases m <;> simp [r_l_law_plain, b_l_law_plain, dF, small64_eq, isTy, tyD, tyEq, pv, ow, place, itemD]
  | _ => simp [gd] at h
theorem plain_ok (n : Nat) : ∀ d, gd n d = true → ∃ x', r_l_law_plain (n + 1) [d] = .ok (ow (pv n d)) [x'] := by
  induction n with
  | zero => intro d h; exact ⟨d, plain_scalar 0 0 d h⟩
  | succ n ih =>
    intro d h
    have fin : ∀ (b : Bool) (xs ys : List D), xs.all (gd n) = true → ys.length = xs.length → fzableL ys = true → fzL ys = xs.map (pv n) → binD .add (.lst true [.bl b]) (.lst true (fzL ys)) = none ∨ True := fun _ _ _ _ _ _ _ => .inr trivial
    cases d with
    | tup xs =>
      have h' := h
      simp only [gd, Bool.and_eq_true, decide_eq_true_eq] at h
      obtain ⟨ys, e, h1, h2, h3⟩ := plain_seq n ih xs h.2 h.1
      have hz := fzL_sh ys h2
      have hl1 : ys.length ≤ 16777216 := by omega
      have hl2 : 1 + ys.length ≤ 16777216 := by omega
      have hl4 : ys.length + 1 ≤ 16777216 := by omega
      have hz2 : shL (xs.map (pv n)) = true := h3 ▸ hz
      have hl5 : 1 + xs.length ≤ 16777216 := by omega
      have hl6 : xs.length ≤ 16777216 := by omega
      have hl3 : (fzL ys).length = ys.length := by rw [h3]; simp [h1]
      obtain ⟨_, a2, a3, _⟩ := gd_fz (n + 1) (.tup xs) h'
      simp only [sh_tup, fz_tup, fzable_tup] at a2 a3
      cases hs : shL xs <;> cases hy : shL ys
      · refine ⟨.tup (fzL xs), ?_⟩
        rw [r_step (n + 1)]
        simp [b_l_law_plain, dF, small64_eq, isTy, tyD, tyEq, pv, ow, hs, a2, a3, e, hl1, hl2, hl3, hl4, hy, h2, h3, hz, hz2, hl5, hl6, h1]
      · rw [fzL_of_sh ys hy] at h3
        refine ⟨.tup (fzL xs), ?_⟩
        rw [r_step (n + 1)]
        simp [b_l_law_plain, dF, small64_eq, isTy, tyD, tyEq, pv, ow, hs, a2, a3, e, hl1, hl2, hl3, hl4, hy, h2, h3, hz, hz2, hl5, hl6, h1]
      · rw [fzL_of_sh xs hs] at e
        refine ⟨.tup xs, ?_⟩
        rw [r_step (n + 1)]
        simp [b_l_law_plain, dF, small64_eq, isTy, tyD, tyEq, pv, ow, hs, a2, a3, e, hl1, hl2, hl3, hl4, hy, h2, h3, hz, hz2, hl5, hl6, h1]
      · rw [fzL_of_sh xs hs] at e
        rw [fzL_of_sh ys hy] at h3
        refine ⟨.tup xs, ?_⟩
        rw [r_step (n + 1)]
        simp [b_l_law_plain, dF, small64_eq, isTy, tyD, tyEq, pv, ow, hs, a2, a3, e, hl1, hl2, hl3, hl4, hy, h2, h3, hz, hz2, hl5, hl6, h1]
    | lst o xs =>
      have h' := h
      simp only [gd, Bool.and_eq_true, decide_eq_true_eq] at h
      obtain ⟨ys, e, h1, h2, h3⟩ := plain_seq n ih xs h.2 h.1
      have hz := fzL_sh ys h2
      have hl1 : ys.length ≤ 16777216 := by omega
      have hl2 : 1 + ys.length ≤ 16777216 := by omega
      have hl4 : ys.length + 1 ≤ 16777216 := by omega
      have hz2 : shL (xs.map (pv n)) = true := h3 ▸ hz
      have hl5 : 1 + xs.length ≤ 16777216 := by omega
      have hl6 : xs.length ≤ 16777216 := by omega
      have hl3 : (fzL ys).length = ys.length := by rw [h3]; simp [h1]
      obtain ⟨_, a2, a3, _⟩ := gd_fz (n + 1) (.lst o xs) h'
      simp only [sh_lst, fz_lst, fzable_lst, Bool.and_eq_true] at a2 a3
      have a2 := a2.2
      cases hs : shL xs <;> cases hy : shL ys
      · refine ⟨.lst false (fzL xs), ?_⟩
        rw [r_step (n + 1)]
        simp [b_l_law_plain, dF, small64_eq, isTy, tyD, tyEq, pv, ow, hs, a2, a3, e, hl1, hl2, hl3, hl4, hy, h2, h3, hz, hz2, hl5, hl6, h1]
      · rw [fzL_of_sh ys hy] at h3
        refine ⟨.lst false (fzL xs), ?_⟩
        rw [r_step (n + 1)]
        simp [b_l_law_plain, dF, small64_eq, isTy, tyD, tyEq, pv, ow, hs, a2, a3, e, hl1, hl2, hl3, hl4, hy, h2, h3, hz, hz2, hl5, hl6, h1]
      · rw [fzL_of_sh xs hs] at e
        refine ⟨.lst o xs, ?_⟩
        rw [r_step (n + 1)]
        simp [b_l_law_plain, dF, small64_eq, isTy, tyD, tyEq, pv, ow, hs, a2, a3, e, hl1, hl2, hl3, hl4, hy, h2, h3, hz, hz2, hl5, hl6, h1]
      · rw [fzL_of_sh xs hs] at e
        rw [fzL_of_sh ys hy] at h3
        refine ⟨.lst o xs, ?_⟩
        rw [r_step (n + 1)]
        simp [b_l_law_plain, dF, small64_eq, isTy, tyD, tyEq, pv, ow, hs, a2, a3, e, hl1, hl2, hl3, hl4, hy, h2, h3, hz, hz2, hl5, hl6, h1]
    | bl b => exact ⟨_, plain_scalar (n + 1) (n + 1) _ rfl⟩
    | int i => exact ⟨_, plain_scalar (n + 1) (n + 1) _ rfl⟩
    | _ => simp [gd] at h
end k66
namespace k66
open Mp Mq
theorem plain_pair (d1 d2 : D) (h1 : gd 59 d1 = true) (h2 : gd 59 d2 = true) (e : pv 59 d1 = pv 59 d2) : ∃ p x1 x2, m_l_law_plain [d1] = .ok p [x1] ∧ m_l_law_plain [d2] = .ok p [x2] ∧ soft p = some p ∧ okD 64 p = true ∧ eqD p p = true ∧ p ≠ .gone := by
  obtain ⟨x1, e1⟩ := plain_ok 59 d1 h1
  obtain ⟨x2, e2⟩ := plain_ok 59 d2 h2
  rw [← e] at e2
  obtain ⟨a1, a2, a3, a4, a5, a6⟩ := pv_ok 59 d1 h1
  refine ⟨ow (pv 59 d1), x1, x2, e1, e2, ?_, ?_, a4, ?_⟩
  · cases hp : pv 59 d1 <;> rw [hp] at a1 <;> simp [ow] <;> simp at a1 <;> simp [a1]
  · have := a6 4
    cases hp : pv 59 d1 <;> rw [hp] at this <;> simp [ow] <;> first | exact this | simpa using this
  · cases hp : pv 59 d1 <;> rw [hp] at a1 <;> simp [ow]
    simp at a1
@[simp] theorem sub11 : sub 1 1 = true := by decide
@[simp] theorem sub21 : sub 2 1 = false := by decide
@[simp] theorem sub22 : sub 2 2 = true := by decide
abbrev S2 (a b : String) : D := .tup [.str (PySem.Str.ofString a), .str (PySem.Str.ofString b)]
theorem ref_neg (g d : D) (hg : sh g = true) (hg2 : g ≠ .gone) (v : Int) (hv : v < 0) (o : Bool) (xs : List D) : ∃ o4 outs, m_l_law_refusal [.int 0, g, .int v, .lst o xs] = .ok (S2 "graph" "vertices") (.int 0 :: g :: .int v :: o4 :: outs) := by
  have hi := fun d => init_neg v d hv
  cases hs : sh (.lst o xs) <;> simp only [sh_lst] at hs <;> simp [m_l_law_refusal, b_l_law_refusal, dF, small64_eq, hi, hs, dXe]
theorem ref_edges (g : D) (v : Nat) (es : List (Nat × Nat)) (h : inR v es) (x y : Int) (hxy : ¬ (0 ≤ x ∧ x < v) ∨ ¬ (0 ≤ y ∧ y < v)) : ∃ o4 outs, m_l_law_refusal [.int 0, g, .int v, .lst true (Ed es ++ [.tup [.int x, .int y]])] = .ok (S2 "graph" "edges") (.int 0 :: g :: .int v :: o4 :: outs) := by
  have hi := init_bad v true es h x y hxy
  simp only [Ed] at hi
  simp [m_l_law_refusal, b_l_law_refusal, dF, small64_eq, hi, dXe]
theorem ref_deg (v : Nat) (es : List (Nat × Nat)) (z : Int) : ∃ o4 outs, m_l_law_refusal [.int 1, G v es, .int v, .int z] = .ok (S2 "graph" "vertex") (.int 1 :: G v es :: .int v :: o4 :: outs) := by
  have hi := degree_no v es v (Nat.le_refl _)
  simp only [G, Ed] at hi
  simp [m_l_law_refusal, b_l_law_refusal, dF, small64_eq, hi, dXe]
theorem ref_edge (v : Nat) (es : List (Nat × Nat)) (z : Int) (r : Nat) (hr : r < 3) : ∃ o4 outs, m_l_law_refusal [.int (2 + r), G v es, .int es.length, .int z] = .ok (S2 "graph" "edge") (.int (2 + r) :: G v es :: .int es.length :: o4 :: outs) := by
  have h2 := deleted_no v es es.length (Nat.le_refl _)
  have h3 := contracted_no v es es.length (Nat.le_refl _)
  have h4 := reversed_no v es es.length (Nat.le_refl _)
  simp only [G, Ed] at h2 h3 h4
  have : r = 0 ∨ r = 1 ∨ r = 2 := by omega
  rcases this with rfl | rfl | rfl <;> simp [m_l_law_refusal, b_l_law_refusal, dF, small64_eq, h2, h3, h4, dXe]
theorem ref_rank (v : Nat) (es : List (Nat × Nat)) (z : Int) : ∃ o4 outs, m_l_law_refusal [.int 5, G v es, .int z, .lst true [.int es.length]] = .ok (S2 "set" "edges") (.int 5 :: G v es :: .int z :: o4 :: outs) := by
  have hi := rank_no v es true es.length (Nat.le_refl _)
  simp only [G, Ed] at hi
  simp [m_l_law_refusal, b_l_law_refusal, dF, small64_eq, hi, dXe]
end k66
namespace k66
open Mp Mq
def SS (ns : List Nat) : List Int := sortI (dedI (ns.map fun n : Nat => (n : Int)))
theorem SS_mem {ns : List Nat} {x : Int} (h : x ∈ SS ns) : ∃ k ∈ ns, x = k := by
  rw [SS, mem_sortI, mem_dedIQ, mem_cast] at h
  exact h
theorem SS_len (ns : List Nat) : (SS ns).length ≤ ns.length := by
  rw [SS, ← sort_keys, sort_len]
  simpa using keys_len ns
def parts2 (ns : List Nat) (v : Nat) : List D := (SS ns).map fun x => .lst true (N (part ns v x.toNat))
theorem fz_parts2 (ns v) : fzL (parts2 ns v) = parts ns v := by
  rw [fz_shL]
  simp [parts2, parts, SS, Function.comp_def, fzL_of_sh _ (shL_N _)]
theorem fzable_parts2 (ns v) : fzableL (parts2 ns v) = true := by
  have : ∀ xs : List Int, fzableL (xs.map fun x => .lst true (N (part ns v x.toNat))) = true := by
    intro xs
    induction xs with
    | nil => rfl
    | cons x xs ih => simp [ih, fzableL_of_sh _ (shL_N _)]
  exact this _
section
variable (v : Nat) (es : List (Nat × Nat)) (hv : v ≤ 50) (h : inR v es) (hl : es.length ≤ 50)
include hv h hl
theorem g9 (xs : List Int) : dS c_l_law_graph_right st_l_law_graph_right_9 [L xs, G v es, .int v, .lst true (Ed es), .gone, .gone, .gone, .gone, .gone, .gone, .gone, .gone, .gone, .gone] = .nx [L xs, G v es, .int v, .lst true (Ed es), .lst true (N (names v es)), .gone, .gone, .gone, .gone, .gone, .gone, .gone, .gone, .gone] := by
  have e := lnames v true es (by omega) h
  simp only [Ed] at e
  simp [st_l_law_graph_right_9, e]
theorem g7 (xs : List Int) : ∃ w, dS c_l_law_graph_right st_l_law_graph_right_7 [L xs, G v es, .int v, .lst true (Ed es), .lst true (N (names v es)), .lst true [], .gone, .gone, .gone, .gone, .gone, .gone, .gone, .gone] = .nx [L xs, G v es, .int v, .lst true (Ed es), .lst true (N (names v es)), .lst true (parts2 (names v es) v), w, .gone, .gone, .gone, .gone, .gone, .gone, .gone] := by
  have hnl := names_len v es h
  generalize names v es = ns at *
  have hsl := SS_len ns
  obtain ⟨ρ, e, w, rfl⟩ := loop_pre (turn := turnF c_l_law_graph_right (.var 6) lx_l_law_graph_right_8) D.int (fun i ρ => ∃ w, ρ = [L xs, G v es, .int v, .lst true (Ed es), .lst true (N ns), .lst true (((SS ns).take i).map fun x => .lst true (N (part ns v x.toNat))), w, .gone, .gone, .gone, .gone, .gone, .gone, .gone]) (SS ns) (ρ := [L xs, G v es, .int v, .lst true (Ed es), .lst true (N ns), .lst true [], .gone, .gone, .gone, .gone, .gone, .gone, .gone, .gone]) ⟨.gone, rfl⟩ (by
    rintro i hi _ ⟨w, rfl⟩
    refine ⟨_, ?_, .int (SS ns)[i], rfl⟩
    rw [turnF_var, List.take_succ_eq_append_getElem hi, List.map_append]
    obtain ⟨k, hk, hx⟩ := SS_mem (List.getElem_mem hi)
    have hc : ∀ q : D, compL (turnC c_l_law_graph_right (.var 8) [8] cx_l_law_graph_right_6 ex_l_law_graph_right_7) (rngL 0 v) [L xs, G v es, .int v, .lst true (Ed es), .lst true (N ns), q, .int k, .gone, .gone, .gone, .gone, .gone, .gone, .gone] none = .ok (((List.range v).filter fun j => decide (ns.getD j 0 = k)).map fun n : Nat => D.int n, none) := by
      intro q
      rw [rng_enc]
      refine comp_some (turn := turnC c_l_law_graph_right (.var 8) [8] cx_l_law_graph_right_6 ex_l_law_graph_right_7) (fun j : Nat => D.int j) _ _ ?_
      intro j hj
      simp only [List.mem_range] at hj
      have hj2 : j < ns.length := by omega
      rw [turnC_var]
      by_cases hq : ns[j] = k <;> simp [cx_l_law_graph_right_6, ex_l_law_graph_right_7, hj2, hq]
    have hr : okR (v : Int) = true := okR_nat v (by omega)
    have hpl := part_len ns v k
    have hl3 : ((List.range v).filter fun i => decide (ns.getD i 0 = k)).length ≤ 16777216 := by
      have := List.length_filter_le (fun i => decide (ns.getD i 0 = k)) (List.range v)
      simp only [List.length_range] at this
      omega
    have hil : min i (SS ns).length < 16777216 := by omega
    simp only [G, Ed, L, N, List.getD_eq_getElem?_getD, part] at hc hl3 ⊢
    simp [lx_l_law_graph_right_8, hx, hr, hc, hl3, hil])
  have hnl2 : ns.length < 60 := by omega
  rw [List.take_length] at e
  simp only [SS] at e
  refine ⟨w, ?_⟩
  simp only [N] at e
  simp [st_l_law_graph_right_7, hnl2, e, parts2, SS]
theorem g6 (xs : List Int) (p w : D) : dS c_l_law_graph_right st_l_law_graph_right_6 [L xs, G v es, .int v, .lst true (Ed es), .lst true (N (names v es)), p, w, .gone, .gone, .gone, .gone, .gone, .gone, .gone] = .nx [L xs, G v es, .int v, .lst true (Ed es), .lst true (N (names v es)), p, w, .lst true [.lst true (parts (names v es) v), .bl (decide ((parts (names v es) v).length = 1))], .gone, .gone, .gone, .gone, .gone, .gone] := by
  have e1 := components_ok v es hv h
  have e2 := conn_ok v es hv h
  simp only [G, Ed] at e1 e2
  simp [st_l_law_graph_right_6, e1, e2]
theorem parts_gd (ns : List Nat) (hn : ns.length ≤ 50) (hv : v ≤ 50) : ∀ n, (parts ns v).all (gd (n + 1)) = true := by
  intro n
  simp only [parts, List.all_eq_true, List.mem_map]
  rintro _ ⟨x, _, rfl⟩
  have := part_len ns v x.toNat
  simp [gd]
  omega
theorem g5 (xs : List Int) (w : D) : ∃ t, dS c_l_law_graph_right st_l_law_graph_right_5 [L xs, G v es, .int v, .lst true (Ed es), .lst true (N (names v es)), .lst true (parts2 (names v es) v), w, .lst true [.lst true (parts (names v es) v), .bl (decide ((parts (names v es) v).length = 1))], .gone, .gone, .gone, .gone, .gone, .gone] = .nx [L xs, G v es, .int v, .lst true (Ed es), .lst true (N (names v es)), .lst false (parts (names v es) v), w, t, .gone, .gone, .gone, .gone, .gone, .gone] := by
  have hnl := names_len v es h
  generalize names v es = ns at *
  have hpl : (parts ns v).length ≤ 50 := by have := SS_len ns; simp [parts]; simp [SS] at this; omega
  have hpl2 : (parts2 ns v).length = (parts ns v).length := by simp [parts, parts2, SS]
  obtain ⟨p, x1, x2, e1, e2, h3, h4, h5, h6⟩ := plain_pair (.lst true [.lst true (parts ns v), .bl (decide ((parts ns v).length = 1))]) (.lst true [.lst false (parts ns v), .bl (decide ((parts ns v).length = 1))]) (by
    have := parts_gd v es hv h hl ns (by omega) hv 56
    simp [gd, this]; omega) (by
    have := parts_gd v es hv h hl ns (by omega) hv 56
    simp [gd, this]; omega) rfl
  have q1 : shL (parts ns v) = true := sh_parts ns v
  have q2 := fz_parts2 ns v
  have q3 := fzable_parts2 ns v
  refine ⟨x1, ?_⟩
  simp [st_l_law_graph_right_5, e1, e2, h3, h4, h5, q1, q2, q3, hpl2]
end
end k66
namespace k66
open Mp Mq
section
variable (v : Nat) (es : List (Nat × Nat)) (hv : v ≤ 50) (h : inR v es) (hl : es.length ≤ 50)
include hv h hl
theorem g4t (j : Nat) (hj : j < v) (A B Pp W T q r z : D) (ns : D) : dSs c_l_law_graph_right lx_l_law_graph_right_5 [A, G v es, .int v, .lst true (Ed es), ns, Pp, W, T, .int j, q, r, z, .gone, .gone] = .nx [A, G v es, .int v, .lst true (Ed es), ns, Pp, W, T, .int j, q, .int (deg es j), z, .gone, .gone] := by
  have hc := comp_one (turn := turnC c_l_law_graph_right (.tup (.cons (.var 12) (.cons (.var 13) .nil))) [12, 13] .nil ex_l_law_graph_right_4) en (fun e => .int ((if e.1 = j then (1 : Int) else 0) + if e.2 = j then 1 else 0)) (xs := es) (ρ := [A, G v es, .int v, .gone, ns, Pp, W, T, .int j, q, r, z, .gone, .gone]) (by
    rintro ⟨x, y⟩ _
    rw [en, turnC_two]
    simp [ex_l_law_graph_right_4])
  have hd := degree_ok v es j hj (by omega)
  obtain ⟨p, x1, x2, e1, e2, h3, h4, h5, h6⟩ := plain_pair (.int (deg es j)) (.int (deg es j)) rfl rfl rfl
  have hl2 : es.length ≤ 16777216 := by omega
  simp only [G, Ed, deg] at hc hd e1 e2 ⊢
  simp [lx_l_law_graph_right_5, hc, hd, e1, e2, h3, h4, h5, hl2]
theorem g4 (A Pp W T ns : D) : ∃ a b, dS c_l_law_graph_right st_l_law_graph_right_4 [A, G v es, .int v, .lst true (Ed es), ns, Pp, W, T, .gone, .gone, .gone, .gone, .gone, .gone] = .nx [A, G v es, .int v, .lst true (Ed es), ns, Pp, W, T, a, .gone, b, .gone, .gone, .gone] := by
  obtain ⟨ρ, e, a, b, rfl⟩ := loop_rng (turn := turnF c_l_law_graph_right (.var 8) lx_l_law_graph_right_5) (ρ := [A, G v es, .int v, .lst true (Ed es), ns, Pp, W, T, .gone, .gone, .gone, .gone, .gone, .gone]) (fun i ρ => ∃ a b, ρ = [A, G v es, .int v, .lst true (Ed es), ns, Pp, W, T, a, .gone, b, .gone, .gone, .gone]) v ⟨.gone, .gone, rfl⟩ (by
    rintro i _ hi ⟨a, b, rfl⟩
    refine ⟨_, ?_, .int i, .int (deg es i), rfl⟩
    rw [turnF_var]
    exact g4t v es hv h hl i hi A .non Pp W T .gone b .gone ns)
  have hr : okR (v : Int) = true := okR_nat v (by omega)
  refine ⟨a, b, ?_⟩
  simp only [G, Ed] at e
  simp [st_l_law_graph_right_4, hr, e]
theorem g3 (xs : List Int) (ns Pp W T a b : D) : ∃ ks xs', (∀ k ∈ ks, k < es.length) ∧ ks.length ≤ es.length ∧ dS c_l_law_graph_right st_l_law_graph_right_3 [L xs, G v es, .int v, .lst true (Ed es), ns, Pp, W, T, a, .gone, b, .gone, .gone, .gone] = .nx [L xs', G v es, .int v, .lst true (Ed es), ns, Pp, W, T, a, .lst true (N ks), b, .gone, .gone, .gone] := by
  obtain ⟨ys, o', e, xs', ks, h1, h2, h3, h4⟩ := comp_rng (turn := turnC c_l_law_graph_right (.var 11) [11] cx_l_law_graph_right_2 ex_l_law_graph_right_3) (ρ := [L xs, G v es, .int v, .lst true (Ed es), ns, Pp, W, T, a, .gone, b, .gone, .gone, .gone]) (fun j ρ acc => ∃ xs' ks, ρ = [L xs', G v es, .int v, .lst true (Ed es), ns, Pp, W, T, a, .gone, b, .gone, .gone, .gone] ∧ acc = N ks ∧ ks.length ≤ j ∧ ∀ k ∈ ks, k < es.length) es.length ⟨xs, [], rfl, rfl, by simp, by simp⟩ (by
    rintro j _ _ hj ⟨xs', ks, rfl, rfl, h3, h4⟩
    obtain ⟨x2, t, ht, et⟩ := take_ok xs' 2 (by omega)
    by_cases hq : t = 0
    · refine ⟨[.int j], some [L x2, G v es, .int v, .lst true (Ed es), ns, Pp, W, T, a, .gone, b, .gone, .gone, .gone], ?_, x2, ks ++ [j], rfl, by simp, by simp; omega, ?_⟩
      · subst hq
        rw [turnC_var]
        simp at et
        simp [cx_l_law_graph_right_2, ex_l_law_graph_right_3, et]
      · intro k hk
        rcases List.mem_append.1 hk with hk | hk
        · exact h4 k hk
        · simp at hk; omega
    · refine ⟨[], some [L x2, G v es, .int v, .lst true (Ed es), ns, Pp, W, T, a, .gone, b, .gone, .gone, .gone], ?_, x2, ks, rfl, by simp, by omega, h4⟩
      rw [turnC_var]
      simp at et
      simp [cx_l_law_graph_right_2, ex_l_law_graph_right_3, et, hq])
  refine ⟨ks, xs', h4, h3, ?_⟩
  have hr : okR (es.length : Int) = true := okR_nat _ (by omega)
  have hkl : ks.length ≤ 16777216 := by omega
  rw [h2] at e
  simp only [G, Ed] at e h1
  cases o' with
  | none =>
    simp at h1
    simp [st_l_law_graph_right_3, hr, e, hkl, h1]
  | some r =>
    simp only [now_some] at h1
    subst h1
    simp [st_l_law_graph_right_3, hr, e, hkl]
theorem g2 (xs : List Int) (ks : List Nat) (hk : ∀ k ∈ ks, k < es.length) (hkl : ks.length ≤ es.length) (ns Pp W T a b : D) : dS c_l_law_graph_right st_l_law_graph_right_2 [L xs, G v es, .int v, .lst true (Ed es), ns, Pp, W, T, a, .lst true (N ks), b, .gone, .gone, .gone] = .nx [L xs, G v es, .int v, .lst true (Ed es), ns, Pp, W, T, a, .lst true (N ks), .int (rk v (pick es ks)), .gone, .gone, .gone] := by
  have hc := comp_one (turn := turnC c_l_law_graph_right (.var 11) [11] .nil ex_l_law_graph_right_1) (fun n : Nat => D.int n) (fun k => en (es.getD k (0, 0))) (xs := ks) (ρ := [L xs, G v es, .int v, .lst true (Ed es), ns, Pp, W, T, a, .gone, b, .gone, .gone, .gone]) (by
    intro k hk2
    have := hk k hk2
    rw [turnC_var]
    simp [ex_l_law_graph_right_1, this])
  have hp := pick_in v es ks h hk
  have hr := lrank_ok v true (pick es ks) hv hp
  have hpe : Ed (pick es ks) = ks.map fun k => en (es.getD k (0, 0)) := by simp [pick]
  rw [hpe] at hr
  have hl2 : ks.length ≤ 16777216 := by omega
  simp only [G, Ed, N, en, List.getD_eq_getElem?_getD] at hc hr
  simp [st_l_law_graph_right_2, hc, hr, hl2]
theorem g1 (xs : List Int) (ks : List Nat) (hk : ∀ k ∈ ks, k < es.length) (hkl : ks.length ≤ es.length) (ns Pp W T a : D) : ∃ o, dS c_l_law_graph_right st_l_law_graph_right_1 [L xs, G v es, .int v, .lst true (Ed es), ns, Pp, W, T, a, .lst true (N ks), .int (rk v (pick es ks)), .gone, .gone, .gone] = .ret (.bl true) [L xs, G v es, .int v, .lst true (Ed es), ns, Pp, W, T, a, o, .int (rk v (pick es ks)), .gone, .gone, .gone] := by
  have e1 := rank_ok v es ks (.lst true (N ks)) (.inr (.inl rfl)) hv h hk (by omega)
  have e2 := rank_ok v es ks (.tup (N ks)) (.inr (.inr rfl)) hv h hk (by omega)
  obtain ⟨p, x1, x2, p1, p2, h3, h4, h5, h6⟩ := plain_pair (.lst true [.int (rk v (pick es ks)), .int (rk v (pick es ks))]) (.lst true [.int (rk v (pick es ks)), .int (rk v (pick es ks))]) rfl rfl rfl
  refine ⟨.lst true (N ks), ?_⟩
  simp only [G, Ed, N] at e1 e2
  simp [st_l_law_graph_right_1, e1, e2, p1, p2, h3, h4, h5]
theorem right_ok (xs : List Int) : ∃ xs', m_l_law_graph_right [L xs, G v es, .int v, .lst true (Ed es)] = .ok (.bl true) [L xs', G v es, .int v, .lst true (Ed es)] := by
  obtain ⟨w, e7⟩ := g7 v es hv h hl xs
  obtain ⟨t, e5⟩ := g5 v es hv h hl xs w
  obtain ⟨a, b, e4⟩ := g4 v es hv h hl (L xs) (.lst false (parts (names v es) v)) w t (.lst true (N (names v es)))
  obtain ⟨ks, xs', hk, hkl, e3⟩ := g3 v es hv h hl xs (.lst true (N (names v es))) (.lst false (parts (names v es) v)) w t a b
  have e2 := g2 v es hv h hl xs' ks hk hkl (.lst true (N (names v es))) (.lst false (parts (names v es) v)) w t a b
  obtain ⟨o, e1⟩ := g1 v es hv h hl xs' ks hk hkl (.lst true (N (names v es))) (.lst false (parts (names v es) v)) w t a
  have e9 := g9 v es hv h hl xs
  have e6 := g6 v es hv h hl xs (.lst true (parts2 (names v es) v)) w
  refine ⟨xs', dF_ret (ρ := [L xs', G v es, .int v, .lst true (Ed es), .lst true (N (names v es)), .lst false (parts (names v es) v), w, t, a, o, .int (rk v (pick es ks)), .gone, .gone, .gone]) rfl ?_⟩
  show dSs c_l_law_graph_right (.cons st_l_law_graph_right_9 (.cons st_l_law_graph_right_8 (.cons st_l_law_graph_right_7 (.cons st_l_law_graph_right_6 (.cons st_l_law_graph_right_5 (.cons st_l_law_graph_right_4 (.cons st_l_law_graph_right_3 (.cons st_l_law_graph_right_2 (.cons st_l_law_graph_right_1 .nil))))))))) [L xs, G v es, .int v, .lst true (Ed es), .gone, .gone, .gone, .gone, .gone, .gone, .gone, .gone, .gone, .gone] = _
  simp only [dSs_cons, e9, seq_nx]
  have e8 : dS c_l_law_graph_right st_l_law_graph_right_8 [L xs, G v es, .int v, .lst true (Ed es), .lst true (N (names v es)), .gone, .gone, .gone, .gone, .gone, .gone, .gone, .gone, .gone] = .nx [L xs, G v es, .int v, .lst true (Ed es), .lst true (N (names v es)), .lst true [], .gone, .gone, .gone, .gone, .gone, .gone, .gone, .gone] := by simp [st_l_law_graph_right_8]
  simp only [e8, e7, e6, e5, e4, e3, e2, e1, seq_nx, seq_ret]
end
end k66
namespace k66
open Mp Mq
theorem compL_cons (turn : D → Env → R (List D × Option Env)) (x : D) (xs : List D) (ρ : Env) (o : Option Env) : compL turn (x :: xs) ρ o = (turn x (now ρ o)).calm.bind fun (y, o1) => (compL turn xs ρ (orE o1 o)).bind fun (ys, o2) => .ok (y ++ ys, o2) := rfl
theorem compL_nil (turn : D → Env → R (List D × Option Env)) (ρ : Env) (o : Option Env) : compL turn [] ρ o = .ok ([], o) := rfl
theorem calm_ok {α : Type} (a : α) : (R.ok a).calm = .ok a := rfl
theorem gd_Ed (n : Nat) (xs : List (Nat × Nat)) : (Ed xs).all (gd (n + 1)) = true := by
  simp only [Ed, List.all_eq_true, List.mem_map]
  rintro _ ⟨x, _, rfl⟩
  simp [gd]
theorem gd_pair (n : Nat) (z : Int) (xs : List (Nat × Nat)) (h : xs.length ≤ 1000) : gd (n + 3) (.lst true [.int z, .tup (Ed xs)]) = true := by
  have e := gd_Ed n xs
  simp only [gd, List.all_cons, List.all_nil, e, List.length_map, h, decide_true, Bool.and_true]
  rfl
theorem gd_three (a b c : D) (ha : gd 58 a = true) (hb : gd 58 b = true) (hc : gd 58 c = true) : gd 59 (.lst true [a, b, c]) = true := by
  simp [gd, ha, hb, hc]
section
variable (v : Nat) (es : List (Nat × Nat)) (hv : v ≤ 50) (h : inR v es) (hl : es.length ≤ 50)
include hv h hl
theorem t6 (j : Nat) (hj : j < es.length) (A B T P5 a8 a9 a10 a11 a12 a13 : D) : ∃ b8 b9 b10 b11 b12 b13, dSs c_law lx_law_2 [A, B, T, .int v, .lst true (Ed es), P5, G v es, .int j, a8, a9, a10, a11, a12, a13, .gone] = .nx [A, B, T, .int v, .lst true (Ed es), P5, G v es, .int j, b8, b9, b10, b11, b12, b13, .gone] := by
  have hm := h es[j] (List.getElem_mem _)
  have e1 := deleted_ok v es h (by omega) j hj
  have e2 := contracted_ok v es h (by omega) (by omega) j hj
  have e3 := reversed_ok v es h (by omega) j hj
  have e4 := lcontr_ok v es (by omega) j hj (by omega)
  have s1 := shown_ok v (es.take j ++ es.drop (j + 1))
  have s2 := shown_ok (contr v es j es[j]).1 (contr v es j es[j]).2
  have s3 := shown_ok v (es.take j ++ [(es[j].2, es[j].1)] ++ es.drop (j + 1))
  have hjl : j ≤ es.length := by omega
  have hc2 : (contr v es j es[j]).2.length ≤ 1000 := by
    have := rest_len es j
    unfold contr
    split <;> simp <;> omega
  generalize contr v es j es[j] = ct at *
  have hgd := gd_three _ _ _ (gd_pair 55 v (es.take j ++ es.drop (j + 1)) (by simp; omega)) (gd_pair 55 ct.1 ct.2 hc2) (gd_pair 55 v (es.take j ++ [(es[j].2, es[j].1)] ++ es.drop (j + 1)) (by simp; omega))
  obtain ⟨p, x1, x2, p1, p2, h3, h4, h5, h6⟩ := plain_pair (.lst true [.lst true [.int v, .tup (Ed (es.take j ++ es.drop (j + 1)))], .lst true [.int ct.1, .tup (Ed ct.2)], .lst true [.int v, .tup (Ed (es.take j ++ [(es[j].2, es[j].1)] ++ es.drop (j + 1)))]]) (.lst true [.lst true [.int v, .tup (Ed (es.take j ++ es.drop (j + 1)))], .lst true [.int ct.1, .tup (Ed ct.2)], .lst true [.int v, .tup (Ed (es.take j ++ [(es[j].2, es[j].1)] ++ es.drop (j + 1)))]]) hgd hgd rfl
  have l1 : j + (es.length - (j + 1)) ≤ 16777216 := by omega
  have l2 : j + 1 ≤ 16777216 := by omega
  have l3 : j + 1 + (es.length - (j + 1)) ≤ 16777216 := by omega
  have hmm : min j es.length = j := by omega
  simp only [G, Ed, List.map_append, List.map_take, List.map_drop, List.map_cons, List.map_nil] at e1 e2 e3 e4 s1 s2 s3 p1 p2 ⊢
  refine ⟨.lst true [.ins false 0 [0, 1] [.int v, .tup (List.take j (List.map en es) ++ List.drop (j + 1) (List.map en es))], .ins false 0 [0, 1] [.int ct.1, .tup (List.map en ct.2)], .ins false 0 [0, 1] [.int v, .tup (List.take j (List.map en es) ++ en (es[j].2, es[j].1) :: List.drop (j + 1) (List.map en es))]], x1, .int es[j].1, .int es[j].2, .int ct.1, .lst true (List.map en ct.2), ?_⟩
  simp only [List.append_assoc, List.cons_append, List.nil_append] at e3 s3 p1 p2
  simp [lx_law_2, hj, hjl, e1, e2, e3, e4, l1, l2, l3, hmm, turnC_var, ex_law_1, compL_cons, compL_nil, calm_ok, s1, s2, s3, p1, p2, h3, h4, h5]
end
end k66
namespace k66
open Mp Mq
@[simp] theorem oks_graph : strOk (PySem.Str.ofString "graph") = true := by decide +kernel
@[simp] theorem oks_set : strOk (PySem.Str.ofString "set") = true := by decide +kernel
@[simp] theorem oks_vertices : strOk (PySem.Str.ofString "vertices") = true := by decide +kernel
@[simp] theorem oks_vertex : strOk (PySem.Str.ofString "vertex") = true := by decide +kernel
@[simp] theorem oks_edges : strOk (PySem.Str.ofString "edges") = true := by decide +kernel
@[simp] theorem oks_edge : strOk (PySem.Str.ofString "edge") = true := by decide +kernel
section
variable (v : Nat) (es : List (Nat × Nat)) (hv : v ≤ 50) (h : inR v es) (hl : es.length ≤ 50)
include hv h hl
theorem u6 (A B T P5 a7 a8 a9 a10 a11 a12 a13 : D) : ∃ b7 b8 b9 b10 b11 b12 b13, dS c_law st_law_6 [A, B, T, .int v, .lst true (Ed es), P5, G v es, a7, a8, a9, a10, a11, a12, a13, .gone] = .nx [A, B, T, .int v, .lst true (Ed es), P5, G v es, b7, b8, b9, b10, b11, b12, b13, .gone] := by
  obtain ⟨ρ, e, b7, b8, b9, b10, b11, b12, b13, rfl⟩ := loop_rng (turn := turnF c_law (.var 7) lx_law_2) (ρ := [A, B, T, .int v, .lst true (Ed es), P5, G v es, a7, a8, a9, a10, a11, a12, a13, .gone]) (fun i ρ => ∃ b7 b8 b9 b10 b11 b12 b13, ρ = [A, B, T, .int v, .lst true (Ed es), P5, G v es, b7, b8, b9, b10, b11, b12, b13, .gone]) es.length ⟨_, _, _, _, _, _, _, rfl⟩ (by
    rintro i _ hi ⟨b7, b8, b9, b10, b11, b12, b13, rfl⟩
    obtain ⟨c8, c9, c10, c11, c12, c13, e⟩ := t6 v es hv h hl i hi A B T P5 b8 b9 b10 b11 b12 b13
    refine ⟨_, ?_, .int i, c8, c9, c10, c11, c12, c13, rfl⟩
    rw [turnF_var]
    exact e)
  have hr : okR (es.length : Int) = true := okR_nat _ (by omega)
  refine ⟨b7, b8, b9, b10, b11, b12, b13, ?_⟩
  simp only [G, Ed] at e
  simp [st_law_6, hr, e]
theorem u14 (A T : D) (xs : List Int) (a3 a4 a5 a6 a7 a8 a9 a10 a11 a12 a13 : D) : ∃ w xs', w < 7 ∧ dS c_law st_law_14 [A, L xs, T, a3, a4, a5, a6, a7, a8, a9, a10, a11, a12, a13, .gone] = .nx [A, L xs', T, .int (w : Nat), a4, a5, a6, a7, a8, a9, a10, a11, a12, a13, .gone] := by
  obtain ⟨xs', r, hr, e⟩ := take_ok xs 7 (by omega)
  refine ⟨r, xs', hr, ?_⟩
  simp at e
  simp [st_law_14, e]
theorem u10 (A B T a6 a7 a8 a9 a10 a11 a12 a13 : D) : dS c_law st_law_10 [A, B, T, .int v, .lst true (Ed es), .lst true (Ed es), a6, a7, a8, a9, a10, a11, a12, a13, .gone] = .nx [A, B, T, .int v, .lst true (Ed es), .lst true (Ed es), G v es, a7, a8, a9, a10, a11, a12, a13, .gone] := by
  have hi := init_ok v (.lst true (Ed es)) es (.inl ⟨true, rfl⟩) h (by omega)
  simp only [Ed] at hi
  simp [st_law_10, hi]
theorem u8 (A B T P5 a7 a8 a9 a10 a11 a12 a13 : D) : dS c_law st_law_8 [A, B, T, .int v, .lst true (Ed es), P5, G v es, a7, a8, a9, a10, a11, a12, a13, .gone] = .nx [A, B, T, .int v, .lst true (Ed es), P5, G v es, a7, a8, a9, a10, a11, a12, a13, .gone] := by
  have hg := gd_pair 56 v es (by omega)
  obtain ⟨p, x1, x2, p1, p2, h3, h4, h5, h6⟩ := plain_pair _ _ hg hg rfl
  have s := shown_ok v es
  simp only [G, Ed] at s p1 p2
  simp [st_law_8, s, p1, p2, h3, h4, h5]
theorem u7 (A T P5 : D) (xs : List Int) (a7 a8 a9 a10 a11 a12 a13 : D) : ∃ xs', dS c_law st_law_7 [A, L xs, T, .int v, .lst true (Ed es), P5, G v es, a7, a8, a9, a10, a11, a12, a13, .gone] = .nx [A, L xs', T, .int v, .lst true (Ed es), P5, G v es, a7, a8, a9, a10, a11, a12, a13, .gone] := by
  obtain ⟨xs', e⟩ := right_ok v es hv h hl xs
  refine ⟨xs', ?_⟩
  simp only [G, Ed, L] at e
  simp [st_law_7, e]
theorem u5 (A B T P5 a7 a8 a9 a10 a11 a12 a13 : D) : dS c_law st_law_5 [A, B, T, .int v, .lst true (Ed es), P5, G v es, a7, a8, a9, a10, a11, a12, a13, .gone] = .nx [A, B, T, .int v, .lst true (Ed es), P5, G v es, a7, .lst true [S2 "graph" "vertices", S2 "graph" "edges"], a9, a10, a11, a12, a13, .gone] := by
  obtain ⟨o1, q1, r1⟩ := ref_neg (G v es) .non (by simp) (by simp) (-1) (by omega) true [.tup [.int 0, .int 0]]
  obtain ⟨o2, q2, r2⟩ := ref_edges (G v es) v es h 0 v (by omega)
  have hll : es.length + 1 ≤ 16777216 := by omega
  simp only [G, Ed] at r1 r2
  simp [st_law_5, negD, r1, r2, hll]
theorem u4 (A T P5 : D) (xs : List Int) (a7 a9 a10 a11 a12 a13 : D) : ∃ xs', dS c_law st_law_4 [A, L xs, T, .int v, .lst true (Ed es), P5, G v es, a7, .lst true [S2 "graph" "vertices", S2 "graph" "edges"], a9, a10, a11, a12, a13, .gone] = .nx [A, L xs', T, .int v, .lst true (Ed es), P5, G v es, a7, .lst true [S2 "graph" "vertices", S2 "graph" "edges", S2 "graph" "vertex", S2 "graph" "edge"], a9, a10, a11, a12, a13, .gone] := by
  obtain ⟨xs', r, hr, e⟩ := take_ok xs 3 (by omega)
  obtain ⟨o1, q1, r1⟩ := ref_deg v es 0
  obtain ⟨o2, q2, r2⟩ := ref_edge v es 0 r hr
  refine ⟨xs', ?_⟩
  simp only [G, Ed] at r1 r2
  simp at e
  simp [st_law_4, r1, r2, e]
theorem u3 (A B T P5 a7 a9 a10 a11 a12 a13 : D) : dS c_law st_law_3 [A, B, T, .int v, .lst true (Ed es), P5, G v es, a7, .lst true [S2 "graph" "vertices", S2 "graph" "edges", S2 "graph" "vertex", S2 "graph" "edge"], a9, a10, a11, a12, a13, .gone] = .nx [A, B, T, .int v, .lst true (Ed es), P5, G v es, a7, .lst true [S2 "graph" "vertices", S2 "graph" "edges", S2 "graph" "vertex", S2 "graph" "edge", S2 "set" "edges"], a9, a10, a11, a12, a13, .gone] := by
  obtain ⟨o1, q1, r1⟩ := ref_rank v es 0
  simp only [G, Ed] at r1
  simp [st_law_3, r1]
theorem u2 (A B T P5 a7 X a9 a10 a11 a12 a13 : D) : dS c_law st_law_2 [A, B, T, .int v, .lst true (Ed es), P5, G v es, a7, X, a9, a10, a11, a12, a13, .gone] = .nx [A, B, T, .int v, .lst true (Ed es), P5, G v es, a7, X, .lst true [S2 "graph" "vertices", S2 "graph" "edges", S2 "graph" "vertex", S2 "graph" "edge", S2 "set" "edges"], a10, a11, a12, a13, .gone] := by
  simp [st_law_2]
theorem u1 (A B T P5 a7 a10 a11 a12 a13 : D) : dS c_law st_law_1 [A, B, T, .int v, .lst true (Ed es), P5, G v es, a7, .lst true [S2 "graph" "vertices", S2 "graph" "edges", S2 "graph" "vertex", S2 "graph" "edge", S2 "set" "edges"], .lst true [S2 "graph" "vertices", S2 "graph" "edges", S2 "graph" "vertex", S2 "graph" "edge", S2 "set" "edges"], a10, a11, a12, a13, .gone] = .nx [A, B, T, .int v, .lst true (Ed es), P5, G v es, a7, .lst true [S2 "graph" "vertices", S2 "graph" "edges", S2 "graph" "vertex", S2 "graph" "edge", S2 "set" "edges"], .lst true [S2 "graph" "vertices", S2 "graph" "edges", S2 "graph" "vertex", S2 "graph" "edge", S2 "set" "edges"], a10, a11, a12, a13, .gone] := by
  obtain ⟨o2, q2, r2⟩ := ref_edges (G v es) 2 [] (by simp [inR]) (-1) 0 (by omega)
  simp at r2
  simp [st_law_1, negD, r2]
end
theorem turn_ok (ns : List Int) (T : D) (xs : List Int) (a3 a4 a5 a6 a7 a8 a9 a10 a11 a12 a13 : D) : ∃ xs' b3 b4 b5 b6 b7 b8 b9 b10 b11 b12 b13, dSs c_law lx_law_3 [.scr ns, L xs, T, a3, a4, a5, a6, a7, a8, a9, a10, a11, a12, a13, .gone] = .nx [.scr ns, L xs', T, b3, b4, b5, b6, b7, b8, b9, b10, b11, b12, b13, .gone] := by
  obtain ⟨v, x1, hv, e14⟩ := u14 0 [] (by omega) (by simp [inR]) (by simp) (.scr ns) T xs a3 a4 a5 a6 a7 a8 a9 a10 a11 a12 a13
  have e13 : dS c_law st_law_13 [.scr ns, L x1, T, .int v, a4, a5, a6, a7, a8, a9, a10, a11, a12, a13, .gone] = .nx [.scr ns, L x1, T, .int v, .lst true (Ed []), a5, a6, a7, a8, a9, a10, a11, a12, a13, .gone] := by simp [st_law_13]
  have e12 : ∃ es x2, es.length ≤ 9 ∧ inR v es ∧ dS c_law st_law_12 [.scr ns, L x1, T, .int v, .lst true (Ed []), a5, a6, a7, a8, a9, a10, a11, a12, a13, .gone] = .nx [.scr ns, L x2, T, .int v, .lst true (Ed es), a5, a6, a7, a8, a9, a10, a11, a12, a13, .gone] := by
    by_cases hv0 : v = 0
    · refine ⟨[], x1, by simp, by simp [inR], ?_⟩
      simp [st_law_12, hv0]
    · have hv1 : 0 < v := by omega
      obtain ⟨es, x2, e, h1, h2⟩ := edges_ok x1 v 9 hv1 (by omega)
      refine ⟨es, x2, h1, h2, ?_⟩
      simp at e
      simp [st_law_12, hv1, e]
  obtain ⟨es, x2, hl, h, e12⟩ := e12
  have hv5 : v ≤ 50 := by omega
  have hl5 : es.length ≤ 50 := by omega
  have e11 : dS c_law st_law_11 [.scr ns, L x2, T, .int v, .lst true (Ed es), a5, a6, a7, a8, a9, a10, a11, a12, a13, .gone] = .nx [.scr ns, L x2, T, .int v, .lst true (Ed es), .lst true (Ed es), a6, a7, a8, a9, a10, a11, a12, a13, .gone] := by simp [st_law_11]
  have e10 := u10 v es hv5 h hl5 (.scr ns) (L x2) T a6 a7 a8 a9 a10 a11 a12 a13
  have e9 : dS c_law st_law_9 [.scr ns, L x2, T, .int v, .lst true (Ed es), .lst true (Ed es), G v es, a7, a8, a9, a10, a11, a12, a13, .gone] = .nx [.scr ns, L x2, T, .int v, .lst true (Ed es), .lst true (Ed es ++ [.tup [.int 0, .int 0]]), G v es, a7, a8, a9, a10, a11, a12, a13, .gone] := by
    have : es.length < 16777216 := by omega
    simp [st_law_9, this]
  have e8 := u8 v es hv5 h hl5 (.scr ns) (L x2) T (.lst true (Ed es ++ [.tup [.int 0, .int 0]])) a7 a8 a9 a10 a11 a12 a13
  obtain ⟨x3, e7⟩ := u7 v es hv5 h hl5 (.scr ns) T (.lst true (Ed es ++ [.tup [.int 0, .int 0]])) x2 a7 a8 a9 a10 a11 a12 a13
  obtain ⟨b7, b8, b9, b10, b11, b12, b13, e6⟩ := u6 v es hv5 h hl5 (.scr ns) (L x3) T (.lst true (Ed es ++ [.tup [.int 0, .int 0]])) a7 a8 a9 a10 a11 a12 a13
  have e5 := u5 v es hv5 h hl5 (.scr ns) (L x3) T (.lst true (Ed es ++ [.tup [.int 0, .int 0]])) b7 b8 b9 b10 b11 b12 b13
  obtain ⟨x4, e4⟩ := u4 v es hv5 h hl5 (.scr ns) T (.lst true (Ed es ++ [.tup [.int 0, .int 0]])) x3 b7 b9 b10 b11 b12 b13
  have e3 := u3 v es hv5 h hl5 (.scr ns) (L x4) T (.lst true (Ed es ++ [.tup [.int 0, .int 0]])) b7 b9 b10 b11 b12 b13
  have e2 := u2 v es hv5 h hl5 (.scr ns) (L x4) T (.lst true (Ed es ++ [.tup [.int 0, .int 0]])) b7 (.lst true [S2 "graph" "vertices", S2 "graph" "edges", S2 "graph" "vertex", S2 "graph" "edge", S2 "set" "edges"]) b9 b10 b11 b12 b13
  have e1 := u1 v es hv5 h hl5 (.scr ns) (L x4) T (.lst true (Ed es ++ [.tup [.int 0, .int 0]])) b7 b10 b11 b12 b13
  refine ⟨x4, .int v, .lst true (Ed es), .lst true (Ed es ++ [.tup [.int 0, .int 0]]), G v es, b7, .lst true [S2 "graph" "vertices", S2 "graph" "edges", S2 "graph" "vertex", S2 "graph" "edge", S2 "set" "edges"], .lst true [S2 "graph" "vertices", S2 "graph" "edges", S2 "graph" "vertex", S2 "graph" "edge", S2 "set" "edges"], b10, b11, b12, b13, ?_⟩
  unfold lx_law_3
  simp only [dSs_cons, dSs_nil, e14, e13, e12, e11, e10, e9, e8, e7, e6, e5, e4, e3, e2, e1, seq_nx]
theorem plain : ∀ ns : List Int, ns.length ≤ 63 → ∃ outs, m_law [.scr ns] = .ok (.bl true) outs := by
  intro ns _
  obtain ⟨xs, outs, ed⟩ := deck_ok ns
  obtain ⟨ρ, e, xs', T, a3, a4, a5, a6, a7, a8, a9, a10, a11, a12, a13, rfl⟩ := loop_rng (turn := turnF c_law (.var 2) lx_law_3) (ρ := [.scr ns, L xs, .gone, .gone, .gone, .gone, .gone, .gone, .gone, .gone, .gone, .gone, .gone, .gone, .gone]) (fun i ρ => ∃ xs' T a3 a4 a5 a6 a7 a8 a9 a10 a11 a12 a13, ρ = [.scr ns, L xs', T, a3, a4, a5, a6, a7, a8, a9, a10, a11, a12, a13, .gone]) 2 ⟨_, _, _, _, _, _, _, _, _, _, _, _, _, rfl⟩ (by
    rintro i _ hi ⟨xs', T, a3, a4, a5, a6, a7, a8, a9, a10, a11, a12, a13, rfl⟩
    obtain ⟨x2, b3, b4, b5, b6, b7, b8, b9, b10, b11, b12, b13, e⟩ := turn_ok ns (.int i) xs' a3 a4 a5 a6 a7 a8 a9 a10 a11 a12 a13
    exact ⟨_, by rw [turnF_var]; exact e, x2, .int i, b3, b4, b5, b6, b7, b8, b9, b10, b11, b12, b13, rfl⟩)
  refine ⟨[.scr ns], ?_⟩
  simp [m_law, b_law, dF, small64_eq, ed, e]
end k66
open PySem PySem.W PySem.Calls PyProof.Rows
theorem PySem.Challenge.cw_treework_k66_graphs_made_holds : PySem.Challenge.rw_treework_k66_graphs_made.Holds := by
  w_on; o_law
  refine HandSHeadRun.head_any (r := OpenLaw.row PySem.Challenge.rw_treework_k66_graphs_made) (q := view (OpenLaw.row PySem.Challenge.rw_treework_k66_graphs_made).prog [19]) (H := k66a.hk) (ob := k66a.ob) (M := 4000) (loose := k66a.names) (d := HandSHeadRun.topDef (OpenLaw.row PySem.Challenge.rw_treework_k66_graphs_made).prog 19) (kwd := []) k66a.ob_eq
    (by kernel_rfl) (fun s => by kernel_rfl) k66a.run (by kernel_rfl) (by kernel_rfl) (by kernel_rfl) (by rfl) (by first | assumption | decide +kernel) (by decide +kernel) ⟨rfl, rfl, rfl, rfl, rfl, by decide +kernel⟩ ?hw ?hc
  case hw => w_witness2
  case hc =>
    refine Mp.walk_ofX (l := PySem.Challenge.rw_treework_k66_graphs_made) (n := 63) (k := 64) (x := "script") (m := k66.m_law) (Tf := fun K => Mp.tabOf k66a.nm K k66a.hnd) (fun _ => rfl) rfl (by decide) (by kernel_rfl) ⟨rfl, by decide, by decide⟩ ?F k66.plain
    intro w mg fa h Y G hmg0
    obtain ⟨K, KX, c, e⟩ := Y
    have hmg : mg ("law" : PySem.Str) = some (.ref fa) := by
      have e : (HandSHeadRun.topDef (OpenLaw.row PySem.Challenge.rw_treework_k66_graphs_made).prog 19).name = ("law" : PySem.Str) := by kernel_rfl
      rw [← e]
      exact hmg0
    have z := k66a.z_of KX G c e
    obtain ⟨fd, F⟩ := z.c.def_ 21 (d := k66a.d_law) rfl
    have ea := hmg.symm.trans (z.M.glo "law" (by decide +kernel))
    cases ea
    have b := L2.FunD.bindsA (ps := ["script"]) F fun _ _ _ _ _ _ us hl => match us, hl with | [_], _ => rfl
    exact ⟨K, fd, KX, fun s v => b s [v] rfl, fun base _ _ => k66a.law_fn z F⟩
